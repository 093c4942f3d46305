import PyProof.Rows.All
import Wide.All
import OpenK.AllK
import Wide.FinOn
import HandS.ForMost
import HandS.IsInst
import HandS.RevRange
import HandS.Style
import HandS.Walk
import HandS.StrMore
import HandS.Codes
import HandS.Exc
import HandS.ExcOwn
import HandS.TryOnly
import HandS.WordsExc
import HandS.ExcIs
import HandS.CallSlots
import PySem.Challenge.RW_jamroad_k09_refused
set_option Elab.async false
set_option linter.all false
set_option maxRecDepth 100000
set_option maxHeartbeats 4000000

/-! MathRoad: cars on a road, in plain Lean. -/
namespace JR

/-- a step of car i of n -/
def stepF (n : Nat) (c : Nat → Int) (i : Nat) : Int := if i + 1 < n ∧ c (i + 1) = c i + 1 then c i else c i + 1
/-- the cars after t steps -/
def stt (n : Nat) (c : Nat → Int) : Nat → Nat → Int
  | 0 => c
  | t + 1 => stepF n (stt n c t)
def Rising (n : Nat) (c : Nat → Int) : Prop := ∀ i, i + 1 < n → c i + 1 ≤ c (i + 1)
def lean (c : Nat → Int) (i : Nat) : Int := c i - 2 * (i : Int)

theorem stepF_ge (n : Nat) (c : Nat → Int) (i : Nat) : c i ≤ stepF n c i := by
  unfold stepF; split <;> omega
theorem stepF_le (n : Nat) (c : Nat → Int) (i : Nat) : stepF n c i ≤ c i + 1 := by
  unfold stepF; split <;> omega
theorem stepF_cases (n : Nat) (c : Nat → Int) (i : Nat) : stepF n c i = c i ∨ stepF n c i = c i + 1 := by
  unfold stepF; split <;> omega
theorem Rising.step {n : Nat} {c : Nat → Int} (h : Rising n c) : Rising n (stepF n c) := by
  intro i hi
  have h1 := h i hi
  have h2 := stepF_ge n c (i + 1)
  have h3 : stepF n c i ≤ c (i + 1) - 1 := by
    unfold stepF; split <;> omega
  omega
theorem Rising.stt {n : Nat} {c : Nat → Int} (h : Rising n c) : ∀ t, Rising n (stt n c t)
  | 0 => h
  | t + 1 => (h.stt t).step
theorem Rising.lt {n : Nat} {c : Nat → Int} (h : Rising n c) : ∀ {j i : Nat}, i < j → j < n → c i < c j
  | 0, i, hij, _ => absurd hij (Nat.not_lt_zero i)
  | j + 1, i, hij, hj => by
    have h1 := h j hj
    by_cases e : i = j
    · subst e; omega
    · have h2 := h.lt (j := j) (i := i) (by omega) (by omega)
      omega
theorem Rising.inj {n : Nat} {c : Nat → Int} (h : Rising n c) {i j : Nat} (hi : i < n) (hj : j < n) (e : c i = c j) : i = j := by
  by_cases h1 : i < j
  · have := h.lt h1 hj; omega
  · by_cases h2 : j < i
    · have := h.lt h2 hi; omega
    · omega
/-- the place ahead is taken just if the next car stands there -/
theorem Rising.next {n : Nat} {c : Nat → Int} (h : Rising n c) {i : Nat} (hi : i < n) : (∃ j, j < n ∧ c j = c i + 1) ↔ (i + 1 < n ∧ c (i + 1) = c i + 1) := by
  constructor
  · rintro ⟨j, hj, e⟩
    have hij : i < j := by
      by_cases h1 : i < j
      · exact h1
      · by_cases h2 : i = j
        · subst h2; omega
        · have := h.lt (i := j) (j := i) (by omega) hi; omega
    have h1 : i + 1 < n := by omega
    refine ⟨h1, ?_⟩
    have h2 := h i h1
    by_cases e2 : i + 1 = j
    · subst e2; exact e
    · have := h.lt (i := i + 1) (j := j) (by omega) hj
      omega
  · rintro ⟨h1, e⟩
    exact ⟨i + 1, h1, e⟩

/-- m is the least of L over the places i .. i + t below n -/
def IsMin (n : Nat) (L : Nat → Int) (i t : Nat) (m : Int) : Prop :=
  (∃ j, i ≤ j ∧ j ≤ i + t ∧ j < n ∧ L j = m) ∧ ∀ j, i ≤ j → j ≤ i + t → j < n → m ≤ L j
theorem IsMin.eq {n : Nat} {L : Nat → Int} {i t : Nat} {m m' : Int} (a : IsMin n L i t m) (b : IsMin n L i t m') : m = m' := by
  obtain ⟨⟨j, h1, h2, h3, e⟩, f⟩ := a
  obtain ⟨⟨k, g1, g2, g3, e'⟩, f'⟩ := b
  have q1 := f k g1 g2 g3
  have q2 := f' j h1 h2 h3
  omega
theorem isMin_stt {n : Nat} {c : Nat → Int} (h : Rising n c) : ∀ t i, i < n → IsMin n (lean c) i t (stt n c t i - t - 2 * (i : Int))
  | 0, i, hi => by
    refine ⟨⟨i, Nat.le_refl _, Nat.le_refl _, hi, ?_⟩, fun j h1 h2 h3 => ?_⟩
    · show c i - 2 * (i : Int) = c i - ((0 : Nat) : Int) - 2 * (i : Int)
      omega
    · have e : j = i := by omega
      subst e
      show c j - ((0 : Nat) : Int) - 2 * (j : Int) ≤ c j - 2 * (j : Int)
      omega
  | t + 1, i, hi => by
    obtain ⟨⟨j, h1, h2, h3, e⟩, f⟩ := isMin_stt h t i hi
    have r := h.stt t
    show IsMin n (lean c) i (t + 1) (stepF n (JR.stt n c t) i - ((t + 1 : Nat) : Int) - 2 * (i : Int))
    by_cases hn : i + 1 < n
    · obtain ⟨⟨k, g1, g2, g3, e'⟩, f'⟩ := isMin_stt h t (i + 1) hn
      have r1 := r i hn
      have q : stepF n (JR.stt n c t) i = (if JR.stt n c t (i + 1) = JR.stt n c t i + 1 then JR.stt n c t i else JR.stt n c t i + 1) := by
        unfold stepF
        by_cases z : JR.stt n c t (i + 1) = JR.stt n c t i + 1
        · rw [if_pos ⟨hn, z⟩, if_pos z]
        · rw [if_neg (fun y => z y.2), if_neg z]
      rw [q]
      by_cases z : JR.stt n c t (i + 1) = JR.stt n c t i + 1
      · rw [if_pos z]
        refine ⟨⟨k, by omega, by omega, g3, by omega⟩, fun m m1 m2 m3 => ?_⟩
        by_cases e2 : m ≤ i + t
        · have := f m m1 e2 m3; omega
        · have := f' m (by omega) (by omega) m3; omega
      · rw [if_neg z]
        refine ⟨⟨j, by omega, by omega, h3, by omega⟩, fun m m1 m2 m3 => ?_⟩
        by_cases e2 : m ≤ i + t
        · have := f m m1 e2 m3; omega
        · have := f' m (by omega) (by omega) m3; omega
    · have q : stepF n (JR.stt n c t) i = JR.stt n c t i + 1 := by
        unfold stepF
        rw [if_neg (fun y => hn y.1)]
      rw [q]
      refine ⟨⟨j, by omega, by omega, h3, by omega⟩, fun m m1 m2 m3 => ?_⟩
      have := f m m1 (by omega) m3
      omega

/-- behind as many steps as cars each moves at each step -/
theorem stt_free {n : Nat} {c : Nat → Int} (h : Rising n c) {t i : Nat} (hi : i < n) (ht : n ≤ i + t + 1) : stt n c (t + 1) i = stt n c t i + 1 := by
  have a := isMin_stt h t i hi
  have b := isMin_stt h (t + 1) i hi
  have b' : IsMin n (lean c) i t (stt n c (t + 1) i - ((t + 1 : Nat) : Int) - 2 * (i : Int)) := by
    obtain ⟨⟨j, h1, h2, h3, e⟩, f⟩ := b
    exact ⟨⟨j, h1, by omega, h3, e⟩, fun m m1 m2 m3 => f m m1 (by omega) m3⟩
  have := a.eq b'
  omega
theorem stt_far {n : Nat} {c : Nat → Int} (h : Rising n c) {i : Nat} (hi : i < n) : ∀ k, stt n c (n + k) i = stt n c n i + k
  | 0 => by show stt n c n i = _; omega
  | k + 1 => by
    have e := stt_far h hi k
    have f := stt_free h (t := n + k) hi (by omega)
    rw [show n + (k + 1) = n + k + 1 by omega, f, e]
    omega
theorem stt_add (n : Nat) (c : Nat → Int) (a : Nat) : ∀ b, stt n (stt n c a) b = stt n c (a + b)
  | 0 => rfl
  | b + 1 => by
    show stepF n (stt n (stt n c a) b) = stepF n (stt n c (a + b))
    rw [stt_add n c a b]
theorem stt_succ (n : Nat) (c : Nat → Int) (t : Nat) : stt n c (t + 1) = stepF n (stt n c t) := rfl
theorem stepF_congr {n : Nat} {c d : Nat → Int} (h : ∀ i, i < n → c i = d i) {i : Nat} (hi : i < n) : stepF n c i = stepF n d i := by
  unfold stepF
  by_cases q : i + 1 < n
  · rw [h i hi, h (i + 1) q]
  · rw [if_neg (fun y => q y.1), if_neg (fun y => q y.1), h i hi]
theorem stt_congr {n : Nat} {c d : Nat → Int} (h : ∀ i, i < n → c i = d i) : ∀ t i, i < n → stt n c t i = stt n d t i
  | 0, i, hi => h i hi
  | t + 1, i, hi => stepF_congr (stt_congr h t) hi
theorem stt_ge {n : Nat} {c : Nat → Int} : ∀ t i, c i ≤ stt n c t i
  | 0, i => Int.le_refl _
  | t + 1, i => Int.le_trans (stt_ge t i) (stepF_ge n _ i)
theorem stt_le {n : Nat} {c : Nat → Int} : ∀ t i, stt n c t i ≤ c i + t
  | 0, i => by show c i ≤ _; omega
  | t + 1, i => by
    have h1 := stt_le (n := n) (c := c) t i
    have h2 := stepF_le n (stt n c t) i
    show stepF n (stt n c t) i ≤ _
    omega

/-- b holds car i up after t steps, the nearest of those that do most -/
def Hld (n : Nat) (L : Nat → Int) (t i b : Nat) : Prop :=
  i ≤ b ∧ b ≤ i + t ∧ b < n ∧ (∀ j, i ≤ j → j ≤ i + t → j < n → L b ≤ L j) ∧ ∀ j, i ≤ j → j < b → L b < L j
theorem Hld.isMin {n : Nat} {L : Nat → Int} {t i b : Nat} (h : Hld n L t i b) : IsMin n L i t (L b) :=
  ⟨⟨b, h.1, h.2.1, h.2.2.1, rfl⟩, h.2.2.2.1⟩
theorem Hld.place {n : Nat} {c : Nat → Int} {t i b : Nat} (r : Rising n c) (h : Hld n (lean c) t i b) : c b + t - 2 * ((b : Int) - i) = stt n c t i := by
  have hi : i < n := Nat.lt_of_le_of_lt h.1 h.2.2.1
  have e := (isMin_stt r t i hi).eq h.isMin
  have e2 : lean c b = c b - 2 * (b : Int) := rfl
  omega

/-- in how many steps car i stays -/
def dly (n : Nat) (c : Nat → Int) (i : Nat) : Int := c i + n - stt n c n i
theorem Hld.delay {n : Nat} {c : Nat → Int} {i b : Nat} (r : Rising n c) (h : Hld n (lean c) n i b) : lean c i - lean c b = dly n c i := by
  have e := h.place r
  have e2 : lean c b = c b - 2 * (b : Int) := rfl
  have e3 : lean c i = c i - 2 * (i : Int) := rfl
  unfold dly
  omega
/-- the stays counted one by one -/
def stays (n : Nat) (c : Nat → Int) (i : Nat) : Nat → Int
  | 0 => 0
  | t + 1 => if stt n c (t + 1) i = stt n c t i then stays n c i t + 1 else stays n c i t
theorem stays_eq (n : Nat) (c : Nat → Int) (i : Nat) : ∀ t, stays n c i t = c i + t - stt n c t i
  | 0 => by
    show (0 : Int) = c i + ((0 : Nat) : Int) - c i
    omega
  | t + 1 => by
    have ih := stays_eq n c i t
    show (if stt n c (t + 1) i = stt n c t i then stays n c i t + 1 else stays n c i t) = _
    rcases stepF_cases n (stt n c t) i with h | h
    · rw [if_pos (show stt n c (t + 1) i = stt n c t i from h), ih]
      have : stt n c (t + 1) i = stt n c t i := h
      omega
    · have q : stt n c (t + 1) i = stt n c t i + 1 := h
      rw [if_neg (by omega), ih]
      omega
theorem stays_dly (n : Nat) (c : Nat → Int) (i : Nat) : stays n c i n = dly n c i := stays_eq n c i n
/-- the last step at which it stays, and one more -/
def fre (n : Nat) (c : Nat → Int) (i : Nat) : Nat → Nat
  | 0 => 0
  | t + 1 => if stt n c (t + 1) i = stt n c t i then t + 1 else fre n c i t
theorem Hld.free {n : Nat} {c : Nat → Int} {i b : Nat} (r : Rising n c) (h : Hld n (lean c) n i b) : ∀ t, b - i ≤ t → fre n c i t = b - i := by
  obtain ⟨h1, h2, h3, h4, h5⟩ := h
  have hi : i < n := Nat.lt_of_le_of_lt h1 h3
  -- behind b - i the least is that of b
  have mb : ∀ t, b - i ≤ t → stt n c t i - t - 2 * (i : Int) = lean c b := by
    intro t ht
    refine (isMin_stt r t i hi).eq ⟨⟨b, h1, by omega, h3, rfl⟩, fun j j1 j2 j3 => h4 j j1 (by omega) j3⟩
  have go : ∀ k, fre n c i (b - i + k) = b - i := by
    intro k
    induction k with
    | zero =>
      show fre n c i (b - i) = b - i
      by_cases e : b = i
      · subst e
        rw [Nat.sub_self]
        rfl
      · obtain ⟨t, ht⟩ : ∃ t, b - i = t + 1 := ⟨b - i - 1, by omega⟩
        rw [ht]
        have m1 := mb (t + 1) (by omega)
        obtain ⟨⟨j, g1, g2, g3, g4⟩, _⟩ := isMin_stt r t i hi
        have m2 := h5 j g1 (by omega)
        show (if stt n c (t + 1) i = stt n c t i then t + 1 else fre n c i t) = t + 1
        rcases stepF_cases n (stt n c t) i with z | z
        · rw [if_pos (show stt n c (t + 1) i = stt n c t i from z)]
        · have z' : stt n c (t + 1) i = stt n c t i + 1 := z
          omega
    | succ k ih =>
      have m1 := mb (b - i + k) (by omega)
      have m2 := mb (b - i + k + 1) (by omega)
      show (if stt n c (b - i + k + 1) i = stt n c (b - i + k) i then b - i + k + 1 else fre n c i (b - i + k)) = b - i
      rw [if_neg (by omega), ih]
  intro t ht
  have := go (t - (b - i))
  rw [show b - i + (t - (b - i)) = t by omega] at this
  exact this
theorem Hld.freeN {n : Nat} {c : Nat → Int} {i b : Nat} (r : Rising n c) (h : Hld n (lean c) n i b) : ((b : Int) - (i : Int)) = ((fre n c i n : Nat) : Int) := by
  have e := h.free r n (by have := h.2.2.1; omega)
  rw [e]
  have := h.1
  omega
/-- a step on each delay is one less for those that stayed -/
theorem dly_step {n : Nat} {c : Nat → Int} (r : Rising n c) {i : Nat} (hi : i < n) : dly n (stepF n c) i = (if stepF n c i = c i then dly n c i - 1 else dly n c i) := by
  have e1 : stt n (stepF n c) n i = stt n c (1 + n) i := by
    rw [← stt_add n c 1 n]
    rfl
  have e2 := stt_far r hi 1
  rw [Nat.add_comm n 1] at e2
  unfold dly
  rw [e1, e2]
  rcases stepF_cases n c i with z | z
  · rw [if_pos z]; omega
  · rw [if_neg (by omega)]; omega
theorem fre_zero {n : Nat} {c : Nat → Int} (r : Rising n c) {i : Nat} (hi : i < n) : ∀ t, fre n (stt n c n) i t = 0
  | 0 => rfl
  | t + 1 => by
    show (if stt n (stt n c n) (t + 1) i = stt n (stt n c n) t i then t + 1 else fre n (stt n c n) i t) = 0
    rw [stt_add, stt_add]
    have e := stt_free r (t := n + t) hi (by omega)
    rw [show n + (t + 1) = n + t + 1 by omega, if_neg (by omega)]
    exact fre_zero r hi t

/-! ### a car and the next one -/
def gap (n : Nat) (c : Nat → Int) (i t : Nat) : Int := stt n c t (i + 1) - stt n c t i
theorem gap_pos {n : Nat} {c : Nat → Int} (r : Rising n c) {i : Nat} (hi : i + 1 < n) (t : Nat) : 1 ≤ gap n c i t := by
  have := r.stt t i hi
  unfold gap
  omega
theorem gap_far {n : Nat} {c : Nat → Int} (r : Rising n c) {i : Nat} (hi : i + 1 < n) (k : Nat) : gap n c i (n + k) = gap n c i n := by
  have h1 := stt_far r hi k
  have h2 := stt_far r (show i < n by omega) k
  unfold gap
  omega
theorem gap_last {n : Nat} {c : Nat → Int} (i : Nat) : gap n c i n = c (i + 1) - c i - dly n c (i + 1) + dly n c i := by
  unfold gap dly
  omega
/-- it stays at a step just if it stands right behind -/
theorem stay_gap {n : Nat} {c : Nat → Int} {i : Nat} (hi : i + 1 < n) (t : Nat) : stt n c (t + 1) i = stt n c t i ↔ gap n c i t = 1 := by
  show stepF n (stt n c t) i = stt n c t i ↔ stt n c t (i + 1) - stt n c t i = 1
  unfold stepF
  constructor
  · intro h
    split at h
    · rename_i q; omega
    · omega
  · intro h
    rw [if_pos ⟨hi, by omega⟩]
theorem dly_nonneg {n : Nat} {c : Nat → Int} (i : Nat) : 0 ≤ dly n c i := by
  have := stt_le (n := n) (c := c) n i
  unfold dly
  omega
theorem stt_lip {n : Nat} {c : Nat → Int} (i : Nat) : ∀ k t, stt n c (t + k) i ≤ stt n c t i + k
  | 0, t => by show stt n c t i ≤ _; omega
  | k + 1, t => by
    have h1 := stt_lip (n := n) (c := c) i k t
    have h2 := stepF_le n (stt n c (t + k)) i
    show stepF n (stt n c (t + k)) i ≤ _
    omega
/-- never held up -/
theorem dly_zero {n : Nat} {c : Nat → Int} {i : Nat} (h : dly n c i = 0) {t : Nat} (ht : t ≤ n) : stt n c t i = c i + t := by
  have h1 := stt_le (n := n) (c := c) t i
  have h2 := stt_lip (n := n) (c := c) i (n - t) t
  rw [show t + (n - t) = n by omega] at h2
  unfold dly at h
  omega
theorem dly_zero_gap {n : Nat} {c : Nat → Int} {i : Nat} (h : dly n c i = 0) (hi : i + 1 < n) {t : Nat} (ht : t ≤ n) : gap n c i n ≤ gap n c i t := by
  have h1 := dly_zero h ht
  have h2 := dly_zero h (Nat.le_refl n)
  have h3 := stt_lip (n := n) (c := c) (i + 1) (n - t) t
  rw [show t + (n - t) = n by omega] at h3
  unfold gap
  omega
/-- held up: it stood right behind the next one -/
theorem dly_touch {n : Nat} {c : Nat → Int} {i : Nat} (h : dly n c i ≠ 0) (hi : i + 1 < n) : ∃ t, t < n ∧ gap n c i t = 1 := by
  rw [← stays_dly] at h
  have go : ∀ t, stays n c i t ≠ 0 → ∃ k, k < t ∧ gap n c i k = 1 := by
    intro t
    induction t with
    | zero => intro z; exact absurd rfl z
    | succ t ih =>
      intro z
      by_cases q : stt n c (t + 1) i = stt n c t i
      · exact ⟨t, Nat.lt_succ_self t, (stay_gap hi t).mp q⟩
      · have e : stays n c i (t + 1) = stays n c i t := by
          show (if stt n c (t + 1) i = stt n c t i then stays n c i t + 1 else stays n c i t) = _
          rw [if_neg q]
        rw [e] at z
        obtain ⟨k, k1, k2⟩ := ih z
        exact ⟨k, by omega, k2⟩
  exact go n h
/-- touches tells a count: there is one -/
theorem touch_ex {n : Nat} {c : Nat → Int} {i : Nat} (r : Rising n c) (hi : i + 1 < n) (h : ¬ (dly n c i = 0 ∧ c (i + 1) - c i - dly n c (i + 1) > 1)) : ∃ t, t ≤ n ∧ gap n c i t = 1 := by
  by_cases z : dly n c i = 0
  · have e := gap_last (n := n) (c := c) i
    have p := gap_pos r hi n
    exact ⟨n, Nat.le_refl n, by omega⟩
  · obtain ⟨t, h1, h2⟩ := dly_touch z hi
    exact ⟨t, by omega, h2⟩
/-- clear: the distance is that at the end, and more than one -/
theorem clear_iff {n : Nat} {c : Nat → Int} {i : Nat} (r : Rising n c) (hi : i + 1 < n) (g : Int) :
    (dly n c i = 0 ∧ g > 1 ∧ c (i + 1) - c i - dly n c (i + 1) = g) ↔ ((∀ t, t ≤ n → gap n c i t ≠ 1) ∧ (∃ t, t ≤ n ∧ gap n c i t = g) ∧ ∀ t, t ≤ n → g ≤ gap n c i t) := by
  have e := gap_last (n := n) (c := c) i
  constructor
  · rintro ⟨h1, h2, h3⟩
    have k : ∀ t, t ≤ n → g ≤ gap n c i t := fun t ht => by
      have := dly_zero_gap h1 hi ht
      omega
    refine ⟨fun t ht z => ?_, ⟨n, Nat.le_refl n, by omega⟩, k⟩
    have := k t ht
    omega
  · rintro ⟨h1, ⟨t, ht, h2⟩, h3⟩
    have z : dly n c i = 0 := Classical.byContradiction fun z => by
      obtain ⟨t, g1, g2⟩ := dly_touch z hi
      exact h1 t (by omega) g2
    have q1 := dly_zero_gap z hi ht
    have q2 := h3 n (Nat.le_refl n)
    have q3 := gap_pos r hi t
    have q4 := h1 t ht
    exact ⟨z, by omega, by omega⟩
end JR

/-! MathHold: the row of waiting cars (the places at which the least is met, from behind), in plain Lean. -/
namespace JR
/-- the places of W fall, their values rise -/
def Ord (L : Nat → Int) (W : List Nat) : Prop := W.Pairwise fun x y => y < x ∧ L x < L y
theorem Ord.len {L : Nat → Int} : ∀ {W : List Nat} {n : Nat}, Ord L W → (∀ k, k ∈ W → k < n) → W.length ≤ n
  | [], n, _, _ => Nat.zero_le n
  | x :: W, n, h, hn => by
    have h1 := List.pairwise_cons.mp h
    have h2 := hn x (List.mem_cons_self ..)
    have h3 := Ord.len (W := W) (n := x) h1.2 fun k hk => (h1.1 k hk).1
    show W.length + 1 ≤ n
    omega
/-- ahead of car m (all of those behind it done; some of the row's end thrown away) -/
structure Wa (n : Nat) (L : Nat → Int) (t m : Nat) (W : List Nat) : Prop where
  inr : ∀ k, k ∈ W → m + 1 ≤ k ∧ k < n
  ord : Ord L W
  cov : ∀ j, m + 1 ≤ j → j ≤ m + t → j < n → (∃ k, k ∈ W ∧ k ≤ j ∧ L k ≤ L j) ∨ L m ≤ L j
/-- car m stands in the row -/
structure Wb (n : Nat) (L : Nat → Int) (t m : Nat) (W : List Nat) : Prop where
  inr : ∀ k, k ∈ W → m ≤ k ∧ k < n
  ord : Ord L W
  cov : ∀ j, m ≤ j → j ≤ m + t → j < n → ∃ k, k ∈ W ∧ k ≤ j ∧ L k ≤ L j
theorem Wb.none {n : Nat} {L : Nat → Int} {t : Nat} : Wb n L t n [] :=
  ⟨fun k h => absurd h (by simp), List.Pairwise.nil, fun j h1 _ h3 => absurd h3 (by omega)⟩
theorem Wb.next {n : Nat} {L : Nat → Int} {t m : Nat} {W : List Nat} (h : Wb n L t (m + 1) W) : Wa n L t m W :=
  ⟨h.inr, h.ord, fun j h1 h2 h3 => .inl (h.cov j h1 (by omega) h3)⟩
theorem Ord.init {L : Nat → Int} {W : List Nat} {x : Nat} (h : Ord L (W ++ [x])) : Ord L W := (List.pairwise_append.mp h).1
/-- the last one thrown away -/
theorem Wa.pop {n : Nat} {L : Nat → Int} {t m x : Nat} {W : List Nat} (h : Wa n L t m (W ++ [x])) (hx : L m ≤ L x) : Wa n L t m W := by
  refine ⟨fun k hk => h.inr k (List.mem_append_left _ hk), h.ord.init, fun j h1 h2 h3 => ?_⟩
  rcases h.cov j h1 h2 h3 with ⟨k, k1, k2, k3⟩ | z
  · rcases List.mem_append.mp k1 with q | q
    · exact .inl ⟨k, q, k2, k3⟩
    · have e : k = x := List.mem_singleton.mp q
      subst e
      exact .inr (by omega)
  · exact .inr z
/-- car m is put at the end -/
theorem Wa.put {n : Nat} {L : Nat → Int} {t m : Nat} {W : List Nat} (hm : m < n) (h : Wa n L t m W) (hl : ∀ W0 x, W = W0 ++ [x] → L x < L m) : Wb n L t m (W ++ [m]) := by
  have all : ∀ y, y ∈ W → L y < L m := by
    intro y hy
    rcases List.eq_nil_or_concat W with e | ⟨W0, x, e⟩
    · rw [e] at hy
      exact absurd hy (by simp)
    · rw [List.concat_eq_append] at e
      have hx := hl W0 x e
      rw [e] at hy
      rcases List.mem_append.mp hy with q | q
      · have o := h.ord
        rw [e] at o
        have := (List.pairwise_append.mp o).2.2 y q x (List.mem_singleton.mpr rfl)
        omega
      · have e2 : y = x := List.mem_singleton.mp q
        subst e2
        exact hx
  refine ⟨fun k hk => ?_, ?_, fun j h1 h2 h3 => ?_⟩
  · rcases List.mem_append.mp hk with q | q
    · have := h.inr k q
      omega
    · have e : k = m := List.mem_singleton.mp q
      omega
  · refine List.pairwise_append.mpr ⟨h.ord, List.pairwise_singleton _ _, fun x hx y hy => ?_⟩
    have e : y = m := List.mem_singleton.mp hy
    subst e
    have := h.inr x hx
    exact ⟨by omega, all x hx⟩
  · by_cases e : j = m
    · subst e
      exact ⟨j, List.mem_append_right _ (List.mem_singleton.mpr rfl), Nat.le_refl _, Int.le_refl _⟩
    · rcases h.cov j (by omega) h2 h3 with ⟨k, k1, k2, k3⟩ | z
      · exact ⟨k, List.mem_append_left _ k1, k2, k3⟩
      · exact ⟨m, List.mem_append_right _ (List.mem_singleton.mpr rfl), by omega, z⟩
/-- the first one is too far -/
theorem Wb.drop {n : Nat} {L : Nat → Int} {t m f : Nat} {W : List Nat} (h : Wb n L t m (f :: W)) (hf : m + t < f) : Wb n L t m W := by
  refine ⟨fun k hk => h.inr k (List.mem_cons_of_mem _ hk), (List.pairwise_cons.mp h.ord).2, fun j h1 h2 h3 => ?_⟩
  obtain ⟨k, k1, k2, k3⟩ := h.cov j h1 h2 h3
  rcases List.mem_cons.mp k1 with q | q
  · omega
  · exact ⟨k, q, k2, k3⟩
theorem Wb.ne {n : Nat} {L : Nat → Int} {t m : Nat} {W : List Nat} (hm : m < n) (h : Wb n L t m W) : W ≠ [] := by
  obtain ⟨k, k1, _⟩ := h.cov m (Nat.le_refl _) (by omega) hm
  intro e
  rw [e] at k1
  exact absurd k1 (by simp)
/-- the first one holds car m up -/
theorem Wb.hld {n : Nat} {L : Nat → Int} {t m f : Nat} {W : List Nat} (h : Wb n L t m (f :: W)) (hf : f ≤ m + t) : Hld n L t m f := by
  have r := h.inr f (List.mem_cons_self ..)
  have o := (List.pairwise_cons.mp h.ord).1
  refine ⟨r.1, hf, r.2, fun j h1 h2 h3 => ?_, fun j h1 h2 => ?_⟩
  · obtain ⟨k, k1, k2, k3⟩ := h.cov j h1 h2 h3
    rcases List.mem_cons.mp k1 with q | q
    · subst q; exact k3
    · have := o k q
      omega
  · obtain ⟨k, k1, k2, k3⟩ := h.cov j h1 (by omega) (by omega)
    rcases List.mem_cons.mp k1 with q | q
    · omega
    · have := o k q
      omega
end JR

/-! MathRing: cars on a ring, in plain Lean. A ring is a list b of n > 0 truth values (a car or a gap); at all whole numbers it is read round and round. -/
namespace JR

/-- the place p of the ring b, round and round -/
def rat (b : List Bool) (p : Int) : Bool := b.getD (p % (b.length : Int)).toNat false
/-- one step, at all places -/
def stp (x : Int → Bool) (p : Int) : Bool := if x p = true then x (p + 1) else x (p - 1)
def its (x : Int → Bool) : Nat → Int → Bool
  | 0 => x
  | t + 1 => stp (its x t)
def b2n (b : Bool) : Nat := if b = true then 1 else 0
/-- how many of the l places from a on -/
def cnt (x : Int → Bool) (a : Int) : Nat → Nat
  | 0 => 0
  | l + 1 => cnt x a l + b2n (x (a + (l : Int)))
def Per (n : Nat) (x : Int → Bool) : Prop := ∀ p, x (p + n) = x p

theorem its_succ (x : Int → Bool) (t : Nat) : its x (t + 1) = stp (its x t) := rfl
theorem its_add (x : Int → Bool) (a : Nat) : ∀ b, its (its x a) b = its x (a + b)
  | 0 => rfl
  | b + 1 => by
    show stp (its (its x a) b) = stp (its x (a + b))
    rw [its_add x a b]
theorem Per.stp {n : Nat} {x : Int → Bool} (h : Per n x) : Per n (stp x) := fun p => by
  unfold JR.stp
  rw [h p, show p + (n : Int) + 1 = p + 1 + n by omega, h (p + 1), show p + (n : Int) - 1 = p - 1 + n by omega, h (p - 1)]
theorem Per.its {n : Nat} {x : Int → Bool} (h : Per n x) : ∀ t, Per n (its x t)
  | 0 => h
  | t + 1 => (h.its t).stp
theorem Per.mulN {n : Nat} {x : Int → Bool} (h : Per n x) (p : Int) : ∀ k : Nat, x (p + n * k) = x p
  | 0 => by rw [show p + (n : Int) * ((0 : Nat) : Int) = p by simp]
  | k + 1 => by
    rw [show p + (n : Int) * ((k + 1 : Nat) : Int) = (p + n * k) + n by rw [Int.natCast_add, Int.mul_add]; simp; omega, h, h.mulN p k]
theorem Per.mul {n : Nat} {x : Int → Bool} (h : Per n x) (p : Int) (k : Int) : x (p + n * k) = x p := by
  rcases Int.le_total 0 k with hk | hk
  · obtain ⟨m, rfl⟩ := Int.eq_ofNat_of_zero_le hk
    exact h.mulN p m
  · obtain ⟨m, hm⟩ := Int.eq_ofNat_of_zero_le (show 0 ≤ -k by omega)
    have e := h.mulN (p + n * k) m
    rw [show p + (n : Int) * k + n * (m : Int) = p by rw [← hm, Int.mul_neg]; omega] at e
    exact e.symm
theorem Per.mod {n : Nat} {x : Int → Bool} (h : Per n x) (p : Int) : x (p % n) = x p := by
  have e := h.mul (p % n) (p / n)
  rw [Int.emod_add_mul_ediv] at e
  exact e.symm

theorem cnt_add (x : Int → Bool) (a : Int) (l : Nat) : ∀ m, cnt x a (l + m) = cnt x a l + cnt x (a + l) m
  | 0 => rfl
  | m + 1 => by
    show cnt x a (l + m) + b2n (x (a + ((l + m : Nat) : Int))) = cnt x a l + (cnt x (a + l) m + b2n (x (a + l + m)))
    rw [cnt_add x a l m, show a + ((l + m : Nat) : Int) = a + l + m by omega, Nat.add_assoc]
theorem cnt_one (x : Int → Bool) (a : Int) : cnt x a 1 = b2n (x a) := by
  show 0 + b2n (x (a + ((0 : Nat) : Int))) = _
  rw [show a + ((0 : Nat) : Int) = a by omega, Nat.zero_add]
theorem cnt_left (x : Int → Bool) (a : Int) (l : Nat) : cnt x a (l + 1) = b2n (x a) + cnt x (a + 1) l := by
  rw [Nat.add_comm l 1, cnt_add, cnt_one]
  rfl
theorem cnt_congr {x y : Int → Bool} {a b : Int} : ∀ {l : Nat}, (∀ i : Nat, i < l → x (a + i) = y (b + i)) → cnt x a l = cnt y b l
  | 0, _ => rfl
  | l + 1, h => by
    show cnt x a l + b2n (x (a + l)) = cnt y b l + b2n (y (b + l))
    rw [cnt_congr (l := l) fun i hi => h i (by omega), h l (by omega)]
theorem cnt_le (x : Int → Bool) (a : Int) : ∀ l, cnt x a l ≤ l
  | 0 => Nat.le_refl _
  | l + 1 => by
    have := cnt_le x a l
    show cnt x a l + b2n (x (a + l)) ≤ l + 1
    unfold b2n
    split <;> omega
theorem b2n_le (b : Bool) : b2n b ≤ 1 := by unfold b2n; split <;> omega
theorem cnt_not (x : Int → Bool) (a : Int) : ∀ l, cnt (fun p => !x p) a l + cnt x a l = l
  | 0 => rfl
  | l + 1 => by
    have := cnt_not x a l
    show cnt (fun p => !x p) a l + b2n (!x (a + l)) + (cnt x a l + b2n (x (a + l))) = l + 1
    cases x (a + l) <;> simp [b2n] <;> omega
/-- a round from anywhere -/
theorem Per.cnt1 {n : Nat} {x : Int → Bool} (h : Per n x) (a : Int) : cnt x (a + 1) n = cnt x a n := by
  have e1 := cnt_left x a n
  have e2 : cnt x a (n + 1) = cnt x a n + b2n (x (a + n)) := rfl
  rw [h a] at e2
  omega
theorem Per.cntN {n : Nat} {x : Int → Bool} (h : Per n x) (a : Int) : ∀ k : Nat, cnt x (a + k) n = cnt x a n
  | 0 => by rw [show a + ((0 : Nat) : Int) = a by omega]
  | k + 1 => by rw [show a + ((k + 1 : Nat) : Int) = a + k + 1 by omega, h.cnt1, h.cntN a k]
theorem Per.cnt {n : Nat} {x : Int → Bool} (h : Per n x) (a b : Int) : cnt x a n = cnt x b n := by
  rcases Int.le_total a b with q | q
  · obtain ⟨k, hk⟩ := Int.eq_ofNat_of_zero_le (show 0 ≤ b - a by omega)
    rw [← h.cntN a k, show a + (k : Int) = b by omega]
  · obtain ⟨k, hk⟩ := Int.eq_ofNat_of_zero_le (show 0 ≤ a - b by omega)
    rw [← h.cntN b k, show b + (k : Int) = a by omega]
/-- read backwards -/
theorem cnt_rev (x : Int → Bool) : ∀ (l : Nat) (a : Int), cnt (fun p => x (-p)) a l = cnt x (1 - a - l) l
  | 0, _ => rfl
  | l + 1, a => by
    have e := cnt_left x (1 - a - ((l + 1 : Nat) : Int)) l
    rw [e, show 1 - a - ((l + 1 : Nat) : Int) + 1 = 1 - a - l by omega, ← cnt_rev x l a]
    show cnt (fun p => x (-p)) a l + b2n (x (-(a + l))) = _
    rw [show 1 - a - ((l + 1 : Nat) : Int) = -(a + l) by omega, Nat.add_comm]

/-- what comes in at the left end of a window, what goes out at the right one -/
theorem cnt_stp (x : Int → Bool) (a : Int) : ∀ l : Nat, cnt (stp x) a l + b2n (x (a + l - 1) && !x (a + l)) = cnt x a l + b2n (x (a - 1) && !x a)
  | 0 => by
    show 0 + b2n (x (a + ((0 : Nat) : Int) - 1) && !x (a + ((0 : Nat) : Int))) = 0 + b2n (x (a - 1) && !x a)
    rw [show a + ((0 : Nat) : Int) = a by omega]
  | l + 1 => by
    have ih := cnt_stp x a l
    show cnt (stp x) a l + b2n (stp x (a + l)) + b2n (x (a + ((l + 1 : Nat) : Int) - 1) && !x (a + ((l + 1 : Nat) : Int))) = cnt x a l + b2n (x (a + l)) + b2n (x (a - 1) && !x a)
    rw [show a + ((l + 1 : Nat) : Int) - 1 = a + l by omega, show a + ((l + 1 : Nat) : Int) = a + l + 1 by omega]
    have es : stp x (a + l) = if x (a + l) = true then x (a + l + 1) else x (a + l - 1) := rfl
    rw [es]
    generalize cnt (stp x) a l = d at *
    generalize x (a + l) = u at *
    generalize x (a + l + 1) = v at *
    generalize x (a + l - 1) = w at *
    generalize b2n (x (a - 1) && !x a) = k at *
    cases u <;> cases v <;> cases w <;> simp [b2n] at * <;> omega
theorem Per.cnt_stp {n : Nat} {x : Int → Bool} (h : Per n x) (a : Int) : JR.cnt (JR.stp x) a n = JR.cnt x a n := by
  have e := JR.cnt_stp x a n
  rw [show a + (n : Int) - 1 = a - 1 + n by omega, h (a - 1), h a] at e
  omega
theorem Per.cnt_its {n : Nat} {x : Int → Bool} (h : Per n x) (a : Int) : ∀ t, JR.cnt (JR.its x t) a n = JR.cnt x a n
  | 0 => rfl
  | t + 1 => by
    show JR.cnt (JR.stp (JR.its x t)) a n = _
    rw [(h.its t).cnt_stp, h.cnt_its a t]

/-- more than half of each of the windows that end ahead of r -/
def Dense (x : Int → Bool) (r : Int) (M : Nat) : Prop := ∀ m : Nat, 1 ≤ m → m ≤ M → m + 1 ≤ cnt x (r - 2 * (m : Int)) (2 * m)
theorem b2n_and_le (a b : Bool) : b2n (a && b) ≤ b2n a := by cases a <;> cases b <;> simp [b2n]
theorem Dense.back {x : Int → Bool} {r : Int} {M : Nat} (hM : 1 ≤ M) (h : Dense (stp x) r M) : Dense x (r + 1) (M + 1) := by
  -- cars at r - 2 and r - 1 behind the step: cars at r - 1 and r ahead of it
  have h1 := h 1 (Nat.le_refl 1) hM
  have e1 : cnt (stp x) (r - 2 * ((1 : Nat) : Int)) (2 * 1) = b2n (stp x (r - 2)) + b2n (stp x (r - 1)) := by
    show 0 + b2n (stp x (r - 2 * ((1 : Nat) : Int) + ((0 : Nat) : Int))) + b2n (stp x (r - 2 * ((1 : Nat) : Int) + ((1 : Nat) : Int))) = _
    rw [show r - 2 * ((1 : Nat) : Int) + ((0 : Nat) : Int) = r - 2 by omega, show r - 2 * ((1 : Nat) : Int) + ((1 : Nat) : Int) = r - 1 by omega, Nat.zero_add]
  rw [e1] at h1
  have both : x (r - 1) = true ∧ x r = true := by
    unfold stp at h1
    rw [show r - 2 + 1 = r - 1 by omega, show r - 1 + 1 = r by omega, show r - 1 - 1 = r - 2 by omega] at h1
    generalize x (r - 2) = u at *
    generalize x (r - 1) = v at *
    generalize x r = w at *
    generalize x (r - 2 - 1) = z at *
    cases u <;> cases v <;> cases w <;> cases z <;> simp [b2n] at *
  intro m m1 m2
  obtain ⟨k, rfl⟩ : ∃ k, m = k + 1 := ⟨m - 1, by omega⟩
  -- the window with one more place at each end
  have e2 : cnt x (r + 1 - 2 * ((k + 1 : Nat) : Int)) (2 * (k + 1)) = b2n (x (r - 2 * (k : Int) - 1)) + cnt x (r - 2 * (k : Int)) (2 * k) + 1 := by
    rw [show 2 * (k + 1) = (2 * k + 1) + 1 by omega, cnt_left]
    show _ + (cnt x (r + 1 - 2 * ((k + 1 : Nat) : Int) + 1) (2 * k) + b2n (x (r + 1 - 2 * ((k + 1 : Nat) : Int) + 1 + ((2 * k : Nat) : Int)))) = _
    rw [show r + 1 - 2 * ((k + 1 : Nat) : Int) = r - 2 * (k : Int) - 1 by omega, show r - 2 * (k : Int) - 1 + 1 = r - 2 * (k : Int) by omega, show r - 2 * (k : Int) + ((2 * k : Nat) : Int) = r by omega, both.2]
    show _ + (_ + 1) = _
    omega
  rw [e2]
  by_cases hk : k = 0
  · subst hk
    show 0 + 1 + 1 ≤ b2n (x (r - 2 * ((0 : Nat) : Int) - 1)) + cnt x (r - 2 * ((0 : Nat) : Int)) 0 + 1
    rw [show r - 2 * ((0 : Nat) : Int) - 1 = r - 1 by omega, both.1]
    exact Nat.le_refl _
  · have hh := h k (by omega) (by omega)
    have e3 := cnt_stp x (r - 2 * (k : Int)) (2 * k)
    rw [show r - 2 * (k : Int) + ((2 * k : Nat) : Int) - 1 = r - 1 by omega, show r - 2 * (k : Int) + ((2 * k : Nat) : Int) = r by omega, both.1, both.2] at e3
    have e4 : b2n (true && !true) = 0 := rfl
    rw [e4] at e3
    have e5 := b2n_and_le (x (r - 2 * (k : Int) - 1)) (!x (r - 2 * (k : Int)))
    omega
theorem Dense.first {x : Int → Bool} : ∀ {t : Nat} {r : Int}, Dense (its x t) r 1 → ∀ s : Nat, s ≤ t → Dense (its x (t - s)) (r + s) (s + 1)
  | t, r, h, 0, _ => by
    rw [show r + ((0 : Nat) : Int) = r by omega]
    exact h
  | t, r, h, s + 1, hs => by
    have ih := Dense.first h s (by omega)
    have e : its x (t - s) = stp (its x (t - (s + 1))) := by
      rw [show t - s = (t - (s + 1)) + 1 by omega]
      rfl
    rw [e] at ih
    have := Dense.back (by omega) ih
    rw [show r + (s : Int) + 1 = r + ((s + 1 : Nat) : Int) by omega] at this
    exact this

/-- no two cars behind one another -/
def NoCC (x : Int → Bool) : Prop := ∀ p, ¬ (x p = true ∧ x (p + 1) = true)
def NoGG (x : Int → Bool) : Prop := ∀ p, x p = true ∨ x (p + 1) = true
/-- settled behind half as many steps as places, if no more cars than gaps -/
theorem settled_cc {n : Nat} {x : Int → Bool} (hx : Per n x) (hn : 0 < n) (hk : 2 * cnt x 0 n ≤ n) {t : Nat} (ht : n / 2 ≤ t) : NoCC (its x t) := by
  rintro p ⟨h1, h2⟩
  have d : Dense (its x t) (p + 2) 1 := by
    intro m m1 m2
    have e : m = 1 := by omega
    subst e
    show 1 + 1 ≤ 0 + b2n (its x t (p + 2 - 2 * ((1 : Nat) : Int) + ((0 : Nat) : Int))) + b2n (its x t (p + 2 - 2 * ((1 : Nat) : Int) + ((1 : Nat) : Int)))
    rw [show p + 2 - 2 * ((1 : Nat) : Int) + ((0 : Nat) : Int) = p by omega, show p + 2 - 2 * ((1 : Nat) : Int) + ((1 : Nat) : Int) = p + 1 by omega, h1, h2]
    exact Nat.le_refl _
  have d0 := Dense.first d t (Nat.le_refl t)
  rw [Nat.sub_self] at d0
  have d1 := d0 ((n + 1) / 2) (by omega) (by omega)
  have w := hx.cnt (p + 2 + t - 2 * (((n + 1) / 2 : Nat) : Int)) 0
  show False
  have hle : cnt x (p + 2 + t - 2 * (((n + 1) / 2 : Nat) : Int)) (2 * ((n + 1) / 2)) ≤ (n + 1) / 2 := by
    by_cases par : n % 2 = 0
    · rw [show 2 * ((n + 1) / 2) = n by omega, w]
      omega
    · rw [show 2 * ((n + 1) / 2) = n + 1 by omega]
      show cnt x _ n + b2n _ ≤ _
      have := b2n_le (x (p + 2 + t - 2 * (((n + 1) / 2 : Nat) : Int) + n))
      rw [w]
      omega
  have d2 : (n + 1) / 2 + 1 ≤ cnt x (p + 2 + t - 2 * (((n + 1) / 2 : Nat) : Int)) (2 * ((n + 1) / 2)) := d1
  omega

/-! ### exchanged: cars for gaps, read backwards -/
def exch (a : Int) (x : Int → Bool) (p : Int) : Bool := !x (a - p)
theorem stp_exch (a : Int) (x : Int → Bool) : stp (exch a x) = exch a (stp x) := by
  funext p
  show (if (!x (a - p)) = true then !x (a - (p + 1)) else !x (a - (p - 1))) = !(if x (a - p) = true then x (a - p + 1) else x (a - p - 1))
  rw [show a - (p + 1) = a - p - 1 by omega, show a - (p - 1) = a - p + 1 by omega]
  generalize x (a - p) = u
  generalize x (a - p - 1) = v
  generalize x (a - p + 1) = w
  cases u <;> cases v <;> cases w <;> rfl
theorem its_exch (a : Int) (x : Int → Bool) : ∀ t, its (exch a x) t = exch a (its x t)
  | 0 => rfl
  | t + 1 => by
    show stp (its (exch a x) t) = exch a (stp (its x t))
    rw [its_exch a x t, stp_exch]
theorem Per.neg {n : Nat} {x : Int → Bool} (h : Per n x) (p : Int) : x (p - n) = x p := by
  have := h (p - n)
  rw [show p - (n : Int) + n = p by omega] at this
  exact this.symm
theorem Per.exch {n : Nat} {x : Int → Bool} (h : Per n x) (a : Int) : Per n (exch a x) := fun p => by
  unfold JR.exch
  rw [show a - (p + (n : Int)) = a - p - n by omega, h.neg]
theorem cnt_shift (x : Int → Bool) (s a : Int) (l : Nat) : cnt (fun p => x (p + s)) a l = cnt x (a + s) l :=
  cnt_congr (x := fun p => x (p + s)) (y := x) (a := a) (b := a + s) fun i _ => by
    show x (a + i + s) = x (a + s + i)
    rw [show a + (i : Int) + s = a + s + i by omega]
theorem Per.cnt_back {n : Nat} {x : Int → Bool} (h : Per n x) (a b c : Int) : JR.cnt (fun p => x (a - p)) b n = JR.cnt x c n := by
  have e : (fun p => x (a - p)) = fun p => (fun q => x (q + a)) (-p) := by
    funext p
    show x (a - p) = x (-p + a)
    rw [show a - p = -p + a by omega]
  rw [e, cnt_rev (fun q => x (q + a)) n b, cnt_shift]
  exact h.cnt _ _
theorem Per.cnt_exch {n : Nat} {x : Int → Bool} (h : Per n x) (a : Int) : JR.cnt (JR.exch a x) 0 n + JR.cnt x 0 n = n := by
  have e := h.cnt_back a 0 0
  have e2 := cnt_not (fun p => x (a - p)) 0 n
  rw [e] at e2
  exact e2
theorem settled_gg {n : Nat} {x : Int → Bool} (hx : Per n x) (hn : 0 < n) (hk : n ≤ 2 * cnt x 0 n) {t : Nat} (ht : n / 2 ≤ t) : NoGG (its x t) := by
  intro p
  have e := hx.cnt_exch 0
  have q := settled_cc (hx.exch 0) hn (by omega) ht (-(p + 1))
  rw [its_exch] at q
  unfold exch at q
  rw [show (0 : Int) - (-(p + 1)) = p + 1 by omega, show (0 : Int) - (-(p + 1) + 1) = p by omega] at q
  cases u : its x t p with
  | true => exact .inl rfl
  | false =>
    refine .inr ?_
    cases v : its x t (p + 1) with
    | true => rfl
    | false => exact absurd ⟨by rw [v]; rfl, by rw [u]; rfl⟩ q

/-! ### settled: the ring goes round -/
theorem NoCC.stp {x : Int → Bool} (h : NoCC x) : stp x = fun p => x (p - 1) := by
  funext p
  show (if x p = true then x (p + 1) else x (p - 1)) = x (p - 1)
  split
  · rename_i q
    have h1 := h p
    have h2 := h (p - 1)
    rw [show p - 1 + 1 = p by omega] at h2
    cases u : x (p + 1) with
    | true => exact absurd ⟨q, u⟩ h1
    | false =>
      cases v : x (p - 1) with
      | true => exact absurd ⟨v, q⟩ h2
      | false => rfl
  · rfl
theorem NoGG.stp {x : Int → Bool} (h : NoGG x) : stp x = fun p => x (p + 1) := by
  funext p
  show (if x p = true then x (p + 1) else x (p - 1)) = x (p + 1)
  split
  · rfl
  · rename_i q
    rcases h p with z | z
    · exact absurd z q
    · rcases h (p - 1) with y | y
      · rw [y, z]
      · rw [show p - 1 + 1 = p by omega] at y
        exact absurd y q
theorem NoCC.step {x : Int → Bool} (h : NoCC x) : NoCC (JR.stp x) := by
  rw [h.stp]
  intro p
  have := h (p - 1)
  rw [show p - 1 + 1 = p + 1 - 1 by omega] at this
  exact this
theorem NoGG.step {x : Int → Bool} (h : NoGG x) : NoGG (JR.stp x) := by
  rw [h.stp]
  intro p
  exact h (p + 1)
theorem NoCC.its {x : Int → Bool} (h : NoCC x) : ∀ t, NoCC (its x t)
  | 0 => h
  | t + 1 => (h.its t).step
theorem NoGG.its {x : Int → Bool} (h : NoGG x) : ∀ t, NoGG (its x t)
  | 0 => h
  | t + 1 => (h.its t).step
theorem NoCC.round {x : Int → Bool} (h : NoCC x) : ∀ (t : Nat) (p : Int), JR.its x t p = x (p - t)
  | 0, p => by
    rw [show p - ((0 : Nat) : Int) = p by omega]
    rfl
  | t + 1, p => by
    have e := (h.its t).stp
    show JR.stp (JR.its x t) p = _
    rw [e]
    show JR.its x t (p - 1) = _
    rw [h.round t (p - 1), show p - 1 - (t : Int) = p - ((t + 1 : Nat) : Int) by omega]
theorem NoGG.round {x : Int → Bool} (h : NoGG x) : ∀ (t : Nat) (p : Int), JR.its x t p = x (p + t)
  | 0, p => by
    rw [show p + ((0 : Nat) : Int) = p by omega]
    rfl
  | t + 1, p => by
    have e := (h.its t).stp
    show JR.stp (JR.its x t) p = _
    rw [e]
    show JR.its x t (p + 1) = _
    rw [h.round t (p + 1), show p + 1 + (t : Int) = p + ((t + 1 : Nat) : Int) by omega]

/-! ### the flow -/
def mov (x : Int → Bool) (p : Int) : Bool := x p && !x (p + 1)
def flw (n : Nat) (x : Int → Bool) : Nat := cnt (mov x) 0 n
theorem Per.mov {n : Nat} {x : Int → Bool} (h : Per n x) : Per n (mov x) := fun p => by
  unfold JR.mov
  rw [h p, show p + (n : Int) + 1 = p + 1 + n by omega, h (p + 1)]
theorem cnt_mono {x y : Int → Bool} {a : Int} : ∀ {l : Nat}, (∀ i : Nat, i < l → x (a + i) = true → y (a + i) = true) → cnt x a l ≤ cnt y a l
  | 0, _ => Nat.le_refl _
  | l + 1, h => by
    have h1 := cnt_mono (l := l) fun i hi => h i (by omega)
    have h2 := h l (by omega)
    show cnt x a l + b2n (x (a + l)) ≤ cnt y a l + b2n (y (a + l))
    have : b2n (x (a + l)) ≤ b2n (y (a + l)) := by
      unfold b2n
      split
      · rename_i q; rw [if_pos (h2 q)]; exact Nat.le_refl _
      · exact Nat.zero_le _
    omega
/-- as many: all of them -/
theorem cnt_full {x y : Int → Bool} {a : Int} : ∀ {l : Nat}, (∀ i : Nat, i < l → x (a + i) = true → y (a + i) = true) → cnt y a l ≤ cnt x a l → ∀ i : Nat, i < l → y (a + i) = true → x (a + i) = true
  | 0, _, _, i, hi, _ => absurd hi (Nat.not_lt_zero i)
  | l + 1, h, hc, i, hi, hy => by
    have h1 := cnt_mono (x := x) (y := y) (a := a) (l := l) fun i hi => h i (by omega)
    have hc' : cnt y a l + b2n (y (a + l)) ≤ cnt x a l + b2n (x (a + l)) := hc
    have h2 : b2n (x (a + l)) ≤ b2n (y (a + l)) := by
      unfold b2n
      split
      · rename_i q; rw [if_pos (h l (by omega) q)]; exact Nat.le_refl _
      · exact Nat.zero_le _
    by_cases e : i = l
    · subst e
      cases u : x (a + i) with
      | true => rfl
      | false =>
        rw [u, hy] at hc'
        have z1 : b2n true = 1 := rfl
        have z2 : b2n false = 0 := rfl
        omega
    · exact cnt_full (l := l) (fun i hi => h i (by omega)) (by omega) i (by omega) hy
theorem flw_cars {n : Nat} (x : Int → Bool) : flw n x ≤ cnt x 0 n := cnt_mono fun i _ h => by
  unfold mov at h
  cases u : x (0 + (i : Int)) with
  | true => rfl
  | false => rw [u] at h; exact h
theorem Per.cnt_succ {n : Nat} {x : Int → Bool} (h : Per n x) : JR.cnt (fun p => !x (p + 1)) 0 n = n - JR.cnt x 0 n := by
  have e := cnt_not (fun p => x (p + 1)) 0 n
  rw [cnt_shift] at e
  have e2 := h.cnt (0 + 1) 0
  rw [e2] at e
  have e3 : JR.cnt (fun p => !x (p + 1)) 0 n + JR.cnt x 0 n = n := e
  omega
theorem flw_gaps {n : Nat} {x : Int → Bool} (h : Per n x) : flw n x ≤ n - cnt x 0 n := by
  rw [← h.cnt_succ]
  refine cnt_mono fun i _ q => ?_
  unfold mov at q
  show (!x (0 + (i : Int) + 1)) = true
  cases u : x (0 + (i : Int) + 1) with
  | true =>
    rw [u] at q
    cases v : x (0 + (i : Int)) <;> rw [v] at q <;> exact q
  | false => rfl
/-- from a turn of the ring to all places -/
theorem Per.all {n : Nat} {x : Int → Bool} (h : Per n x) (hn : 0 < n) {P : Bool → Bool → Prop} (k : ∀ i : Nat, i < n → P (x (0 + i)) (x (0 + i + 1))) (p : Int) : P (x p) (x (p + 1)) := by
  have h0 := Int.emod_nonneg p (show (n : Int) ≠ 0 by omega)
  have h1 := Int.emod_lt_of_pos p (show (0 : Int) < n by omega)
  have q := k (p % n).toNat (by omega)
  rw [show (0 : Int) + ((p % n).toNat : Int) = p % n by omega, h.mod p] at q
  have e : x (p % n + 1) = x (p + 1) := by
    have := h.mul (p % n + 1) (p / n)
    rw [show p % (n : Int) + 1 + n * (p / n) = p + 1 by have := Int.emod_add_mul_ediv p n; omega] at this
    exact this.symm
  rw [e] at q
  exact q
theorem flw_cc {n : Nat} {x : Int → Bool} (h : Per n x) (hn : 0 < n) : flw n x = cnt x 0 n ↔ NoCC x := by
  constructor
  · intro e p
    refine h.all hn (P := fun a b => ¬ (a = true ∧ b = true)) (fun i hi => ?_) p
    rintro ⟨h1, h2⟩
    have q := cnt_full (x := mov x) (y := x) (a := 0) (l := n) (fun i _ h => by
      unfold mov at h
      cases u : x (0 + (i : Int)) with
      | true => rfl
      | false => rw [u] at h; exact h) (by rw [← e]; exact Nat.le_refl _) i hi h1
    unfold mov at q
    rw [h1, h2] at q
    exact absurd q (by decide)
  · intro c
    refine cnt_congr fun i _ => ?_
    unfold mov
    have := c (0 + i)
    cases u : x (0 + (i : Int)) with
    | false => rfl
    | true =>
      cases v : x (0 + (i : Int) + 1) with
      | true => exact absurd ⟨u, v⟩ this
      | false => rfl
theorem flw_gg {n : Nat} {x : Int → Bool} (h : Per n x) (hn : 0 < n) : flw n x = n - cnt x 0 n ↔ NoGG x := by
  rw [← h.cnt_succ]
  have sub : ∀ i : Nat, i < n → mov x (0 + i) = true → (fun p => !x (p + 1)) (0 + (i : Int)) = true := fun i _ q => by
    unfold mov at q
    show (!x (0 + (i : Int) + 1)) = true
    cases u : x (0 + (i : Int) + 1) with
    | true =>
      rw [u] at q
      cases v : x (0 + (i : Int)) <;> rw [v] at q <;> exact q
    | false => rfl
  constructor
  · intro e p
    refine h.all hn (P := fun a b => a = true ∨ b = true) (fun i hi => ?_) p
    cases v : x (0 + (i : Int) + 1) with
    | true => exact .inr rfl
    | false =>
      refine .inl ?_
      have q := cnt_full (x := mov x) (y := fun p => !x (p + 1)) (a := 0) (l := n) sub (by rw [← e]; exact Nat.le_refl _) i hi (by show (!x (0 + (i : Int) + 1)) = true; rw [v]; rfl)
      unfold mov at q
      rw [v] at q
      cases u : x (0 + (i : Int)) with
      | true => rfl
      | false => rw [u] at q; exact q
  · intro c
    refine cnt_congr fun i _ => ?_
    unfold mov
    show (x (0 + (i : Int)) && !x (0 + (i : Int) + 1)) = !x (0 + (i : Int) + 1)
    rcases c (0 + i) with u | u
    · rw [u]; rfl
    · rw [u]; cases x (0 + (i : Int)) <;> rfl
/-- the greatest flow there can be -/
def most (n : Nat) (x : Int → Bool) : Nat := min (cnt x 0 n) (n - cnt x 0 n)
theorem flw_le {n : Nat} {x : Int → Bool} (h : Per n x) : flw n x ≤ most n x := by
  have h1 := flw_cars (n := n) x
  have h2 := flw_gaps h
  unfold most
  omega
theorem most_its {n : Nat} {x : Int → Bool} (h : Per n x) (t : Nat) : most n (its x t) = most n x := by
  unfold most
  rw [h.cnt_its]
theorem flw_settled {n : Nat} {x : Int → Bool} (h : Per n x) (hn : 0 < n) {t : Nat} (ht : n / 2 ≤ t) : flw n (its x t) = most n x := by
  have hc := cnt_le x 0 n
  have e := h.cnt_its 0 t
  by_cases k : 2 * cnt x 0 n ≤ n
  · have q := (flw_cc (h.its t) hn).mpr (settled_cc h hn k ht)
    rw [q, e]
    unfold most
    omega
  · have q := (flw_gg (h.its t) hn).mpr (settled_gg h hn (by omega) ht)
    rw [q, e]
    unfold most
    omega
/-- once it is as great as can be it stays so -/
theorem flw_stays {n : Nat} {x : Int → Bool} (h : Per n x) (hn : 0 < n) (e : flw n x = most n x) (t : Nat) : flw n (its x t) = most n x := by
  have hc := cnt_le x 0 n
  have ec := h.cnt_its 0 t
  by_cases k : cnt x 0 n ≤ n - cnt x 0 n
  · have e1 : flw n x = cnt x 0 n := by rw [e]; unfold most; omega
    have q := (flw_cc (h.its t) hn).mpr (((flw_cc h hn).mp e1).its t)
    rw [q, ec, ← e1, e]
  · have e1 : flw n x = n - cnt x 0 n := by rw [e]; unfold most; omega
    have q := (flw_gg (h.its t) hn).mpr (((flw_gg h hn).mp e1).its t)
    rw [q, ec, ← e1, e]
theorem most_cc {n : Nat} {x : Int → Bool} (h : Per n x) (hn : 0 < n) (e : flw n x = most n x) (k : cnt x 0 n ≤ n - cnt x 0 n) : NoCC x :=
  (flw_cc h hn).mp (by rw [e]; unfold most; omega)
theorem most_gg {n : Nat} {x : Int → Bool} (h : Per n x) (hn : 0 < n) (e : flw n x = most n x) (k : n - cnt x 0 n ≤ cnt x 0 n) : NoGG x :=
  (flw_gg h hn).mp (by rw [e]; unfold most; omega)
/-! the exchanged ring, the turned one -/
theorem flw_exch {n : Nat} {x : Int → Bool} (h : Per n x) (a : Int) : flw n (exch a x) = flw n x := by
  have e : mov (exch a x) = fun p => mov x (a - 1 - p) := by
    funext p
    unfold mov exch
    rw [show a - (p + 1) = a - 1 - p by omega, show a - 1 - p + 1 = a - p by omega]
    cases x (a - p) <;> cases x (a - 1 - p) <;> rfl
  unfold flw
  rw [e]
  exact h.mov.cnt_back (a - 1) 0 0
theorem most_exch {n : Nat} {x : Int → Bool} (h : Per n x) (a : Int) : most n (exch a x) = most n x := by
  have := h.cnt_exch a
  unfold most
  omega
def shf (a : Int) (x : Int → Bool) (p : Int) : Bool := x (p + a)
theorem stp_shf (a : Int) (x : Int → Bool) : stp (shf a x) = shf a (stp x) := by
  funext p
  unfold stp shf
  rw [show p + 1 + a = p + a + 1 by omega, show p - 1 + a = p + a - 1 by omega]
theorem its_shf (a : Int) (x : Int → Bool) : ∀ t, its (shf a x) t = shf a (its x t)
  | 0 => rfl
  | t + 1 => by
    show stp (its (shf a x) t) = shf a (stp (its x t))
    rw [its_shf a x t, stp_shf]
theorem Per.shf {n : Nat} {x : Int → Bool} (h : Per n x) (a : Int) : Per n (shf a x) := fun p => by
  unfold JR.shf
  rw [show p + (n : Int) + a = p + a + n by omega, h]
theorem cnt_shf {n : Nat} {x : Int → Bool} (h : Per n x) (a : Int) : cnt (shf a x) 0 n = cnt x 0 n := by
  have e : cnt (shf a x) 0 n = cnt x (0 + a) n := cnt_shift x a 0 n
  rw [e]
  exact h.cnt _ _
theorem flw_shf {n : Nat} {x : Int → Bool} (h : Per n x) (a : Int) : flw n (shf a x) = flw n x := by
  have e : mov (shf a x) = shf a (mov x) := by
    funext p
    unfold mov shf
    rw [show p + 1 + a = p + a + 1 by omega]
  unfold flw
  rw [e]
  exact cnt_shf h.mov a
theorem most_shf {n : Nat} {x : Int → Bool} (h : Per n x) (a : Int) : most n (shf a x) = most n x := by
  unfold most
  rw [cnt_shf h]
end JR

namespace JR
open PySem PySem.Spec PyProof.Rows L2

/-! ### the text; built-in names -/
def topS (i : Nat) : Stmt := PySem.Challenge.pw_jamroad_k09_refused.main.body.getD i (.Pass ⟨0, 0, 0, 0⟩)
/-- built-in names that the module does not bind -/
structure Blt (mg : Str → Option Value) : Prop where
  len : mg "len" = none
  isinstance : mg "isinstance" = none
  int : mg "int" = none
  bool : mg "bool" = none
  list : mg "list" = none
  str : mg "str" = none
  all : mg "all" = none
  any : mg "any" = none
  sum : mg "sum" = none
  min : mg "min" = none
  max : mg "max" = none
  range : mg "range" = none
  enumerate : mg "enumerate" = none
  reversed : mg "reversed" = none
  sorted : mg "sorted" = none
theorem bt_len : bootBuiltins "len" = some (.builtin "len") := PySem.boot_len
theorem bt_isinstance : bootBuiltins "isinstance" = some (.builtin "isinstance") := by decide +kernel
theorem bt_int : bootBuiltins "int" = some (.type "int") := by decide +kernel
theorem bt_bool : bootBuiltins "bool" = some (.type "bool") := by decide +kernel
theorem bt_list : bootBuiltins "list" = some (.type "list") := by decide +kernel
theorem bt_str : bootBuiltins "str" = some (.type "str") := by decide +kernel
theorem bt_all : bootBuiltins "all" = some (.builtin "all") := by decide +kernel
theorem bt_any : bootBuiltins "any" = some (.builtin "any") := by decide +kernel
theorem bt_sum : bootBuiltins "sum" = some (.builtin "sum") := by decide +kernel
theorem bt_min : bootBuiltins "min" = some (.builtin "min") := by decide +kernel
theorem bt_max : bootBuiltins "max" = some (.builtin "max") := by decide +kernel
theorem bt_sorted : bootBuiltins "sorted" = some (.builtin "sorted") := by decide +kernel
section
variable {X : Cx} {x : Str} {pos : Pos}
theorem pe_ty {T : String} (hg : Gl X x) (hm : X.mg x = none) (hv : bootBuiltins x = some (.type T)) (hn : x ≠ "__name__" := by decide) (hd : (x == ("__debug__" : Str)) = false := by decide) : PE X (.Name x pos) (tC (.ty T)) :=
  pe_bltn hg hm hv rfl hn hd
theorem pe_cls {C : Addr} (hg : Gl X x) (hm : X.mg x = some (.ref C)) (hd : (x == ("__debug__" : Str)) = false := by decide) : PE X (.Name x pos) (tC (.ref C)) := pe_glob hg hm rfl hd
end

/-! ### defs that may be called by their names (nothing raises) -/
structure Cal (P : Program) (w : World) (K : PySem.W.Frag) (mg : Str → Option Value) (base : Heap) (k : Nat) (x : Str) (sp : Sp) : Prop where
  ex : ∃ (f : Addr) (fd : FuncData) (ps : List Str), FnOk P w K mg base CX0 k f fd ps sp ∧ mg x = some (.ref f) ∧ PySem.W.keepIn K (.ref f) = true ∧ Binds K fd ps []
theorem pe_c {X : Cx} {k j : Nat} {x : Str} {sp : Sp} {p pos : Pos} {e : Expr} {es : List Expr} {t : TA} (c : Cal X.prog X.w X.K X.mg X.base k x sp) (hr : Room j X.A) (hk : k ≤ j) (hg : Gl X x) (ha : PA X (e :: es) t)
    (hdb : (x == ("__debug__" : Str)) = false := by decide) (he : starEach (e :: es) X.env = (false, eval e X.env) :: starEach es X.env := by rfl) (hpl : (backTo pos (starEach es X.env)).any (·.1) = false := by rfl) :
    PE X (.Call (.Name x p) (e :: es) [] pos) (tCall sp [] E0 t) := by
  obtain ⟨f, fd, ps, F, hm, kp, b⟩ := c.ex
  exact pe_call F (hr.mono hk) hg hm kp b .nil pass0 ha hdb he hpl

/-! ### the rules, the written part named -/
theorem ixlK (K : PySem.W.Frag) {X : Cx} (h : X.K = K := by rfl) : IxR X (rIxL K) := h ▸ ix_list
theorem ixtK (K : PySem.W.Frag) {X : Cx} (h : X.K = K := by rfl) : IxR X (rIxT K) := h ▸ ix_tup
theorem eqK (K : PySem.W.Frag) {X : Cx} (hu : X.A.units + 64 < cLine) (h : X.K = K := by rfl) : OpR X (compareOp .Eq) (rEqD K) := h ▸ op_eqD hu
theorem neK (K : PySem.W.Frag) {X : Cx} (hu : X.A.units + 64 < cLine) (h : X.K = K := by rfl) : OpR X (compareOp .NotEq) (rNeD K) := h ▸ op_neD hu
theorem inK (K : PySem.W.Frag) {X : Cx} (h : X.K = K := by rfl) : OpR X (compareOp .In) (rIn K false) := h ▸ op_in_seq
theorem notInK (K : PySem.W.Frag) {X : Cx} (h : X.K = K := by rfl) : OpR X (compareOp .NotIn) (rIn K true) := h ▸ op_notIn_seq
theorem isiK (K : PySem.W.Frag) {X : Cx} (h : X.K = K := by rfl) : CallR X (.builtin "isinstance") (rIsi K) := h ▸ call_isi
def rLenK (K : PySem.W.Frag) : List V → Hp → VK → Prop := fun xs H Q => ∃ p ys, xs = [.ref p] ∧ (SqL K H p ys ∨ SqT K H p ys) ∧ Q (.int ys.length) H
theorem lenK (K : PySem.W.Frag) {X : Cx} (h : X.K = K := by rfl) : CallR X (.builtin "len") (rLenK K) := by subst h; exact call_len_seq
def rListK (K : PySem.W.Frag) : List V → Hp → VK → Prop := fun xs H Q => ∃ p ys, xs = [.ref p] ∧ (SqL K H p ys ∨ SqT K H p ys) ∧ ∀ l, H l = none → Q (.ref l) (upd H l (.lst ys))
theorem listK (K : PySem.W.Frag) {X : Cx} (h : X.K = K := by rfl) : CallR X (.type "list") (rListK K) := by subst h; exact call_list_of
theorem allK (K : PySem.W.Frag) {X : Cx} (hc : X.calm = true) (h : X.K = K := by rfl) : CallR X (.builtin "all") (rAll K) := h ▸ cr_all hc
theorem anyK (K : PySem.W.Frag) {X : Cx} (hc : X.calm = true) (h : X.K = K := by rfl) : CallR X (.builtin "any") (rAny K) := h ▸ cr_any hc
theorem sumK (K : PySem.W.Frag) {X : Cx} (hc : X.calm = true) (h : X.K = K := by rfl) : CallR X (.builtin "sum") (rSum K) := h ▸ cr_sum hc
theorem minK (K : PySem.W.Frag) {X : Cx} (hc : X.calm = true) (h : X.K = K := by rfl) : CallR X (.builtin "min") (rMin K) := h ▸ cr_min hc
theorem maxK (K : PySem.W.Frag) {X : Cx} (hc : X.calm = true) (h : X.K = K := by rfl) : CallR X (.builtin "max") (rMax K) := h ▸ cr_max hc

/-! ### heaps -/
theorem same_new {H : Hp} {p : Addr} {o : HO} (h : H p = none) : Same H (upd H p o) := fun b x e => by
  rw [upd_ne (ne_of_none e h)]
  exact e
/-- what H does not know may change -/
theorem same_mut {H H' : Hp} {p : Addr} {o : HO} (s : Same H H') (h : H p = none) : Same H (upd H' p o) := fun b x e => by
  rw [upd_ne (ne_of_none e h)]
  exact s b x e
theorem Same.sqT {K : PySem.W.Frag} {H H' : Hp} {a : Addr} {xs : List V} (e : Same H H') (h : SqT K H a xs) : SqT K H' a xs := by
  rcases h with (h | ⟨o, h⟩) | h
  · exact .inl (.inl (e _ _ h))
  · exact .inl (.inr ⟨o, e _ _ h⟩)
  · exact .inr h
theorem lt_line {n : Nat} (h : n ≤ 100000) : n < sizeLine := Nat.lt_of_le_of_lt h (by decide)
theorem le_line {n : Nat} (h : n ≤ 100000) : n ≤ sizeLine := Nat.le_of_lt (lt_line h)
/-- what a list is -/
theorem ty_list {K : PySem.W.Frag} {H : Hp} {a : Addr} {xs : List V} (h : SqL K H a xs) : TyX K H (.ref a) (.type "list") := by
  rcases h with (h | ⟨o, h⟩) | ⟨o, its, n, hk, hc, _⟩
  · exact .base (.lst h)
  · exact .base (.frz h)
  · exact .kList hk hc

/-! ### lists of whole numbers by their items -/
def iL (n : Nat) (c : Nat → Int) : List V := (List.range n).map fun i => V.int (c i)
theorem iL_len (n : Nat) (c : Nat → Int) : (iL n c).length = n := by unfold iL; rw [List.length_map, List.length_range]
theorem iL_get {n : Nat} {c : Nat → Int} {i : Nat} (h : i < n) : (iL n c)[i]? = some (.int (c i)) := by
  unfold iL
  rw [List.getElem?_map, List.getElem?_range h]
  rfl
theorem iL_at {n : Nat} {c : Nat → Int} {i : Nat} {z : Int} (e : z = (i : Int)) (h : i < n) : atI (iL n c) z = some (.int (c i)) := at_of e (iL_get h)
theorem iL_lt {n : Nat} {c : Nat → Int} {i : Nat} {x : V} (h : (iL n c)[i]? = some x) : i < n ∧ x = .int (c i) := by
  have q := (List.getElem?_eq_some_iff.mp h).1
  rw [iL_len] at q
  rw [iL_get q] at h
  exact ⟨q, (Option.some.inj h).symm⟩
theorem iL_succ (n : Nat) (c : Nat → Int) : iL (n + 1) c = iL n c ++ [.int (c n)] := by
  unfold iL
  rw [List.range_succ, List.map_append]
  rfl
theorem iL_congr {n : Nat} {c d : Nat → Int} (h : ∀ i, i < n → c i = d i) : iL n c = iL n d := by
  unfold iL
  refine List.map_congr_left fun i hi => ?_
  rw [h i (List.mem_range.mp hi)]
theorem iL_inj {n : Nat} {c d : Nat → Int} (h : iL n c = iL n d) : ∀ i, i < n → c i = d i := fun i hi => by
  have e : (iL n c)[i]? = (iL n d)[i]? := by rw [h]
  rw [iL_get hi, iL_get hi] at e
  exact V.int.inj (Option.some.inj e)
/-- any list of whole numbers so -/
theorem iL_of (ns : List Int) : ns.map V.int = iL ns.length fun i => ns.getD i 0 := by
  refine List.ext_getElem? fun i => ?_
  rw [List.getElem?_map]
  by_cases h : i < ns.length
  · rw [iL_get h, List.getElem?_eq_getElem h, List.getD_eq_getElem?_getD, List.getElem?_eq_getElem h]
    rfl
  · rw [List.getElem?_eq_none (by omega), List.getElem?_eq_none (by rw [iL_len]; omega)]
    rfl
def toInts (n : Nat) (c : Nat → Int) : List Int := (List.range n).map c
theorem iL_toInts (n : Nat) (c : Nat → Int) : iL n c = (toInts n c).map V.int := by
  unfold iL toInts
  rw [List.map_map]
  rfl
theorem toInts_len (n : Nat) (c : Nat → Int) : (toInts n c).length = n := by unfold toInts; rw [List.length_map, List.length_range]

/-! ### == of lists of whole numbers -/
def dats (ns : List Int) : PyData := .list (ns.map .int)
theorem eqvAll_ints : ∀ xs ys : List Int, PyData.eqvAll (xs.map .int) (ys.map .int) = decide (xs = ys)
  | [], [] => rfl
  | [], y :: ys => rfl
  | x :: xs, [] => rfl
  | x :: xs, y :: ys => by
    have ih := eqvAll_ints xs ys
    show PyData.eqvAll (.int x :: xs.map .int) (.int y :: ys.map .int) = _
    rw [PyData.eqvAll, PyData.eqv, ih]
    by_cases e : x = y
    · subst e
      by_cases e2 : xs = ys
      · subst e2; simp
      · simp [e2]
    · simp [e]
theorem eqv_dats (xs ys : List Int) : PyData.eqv (dats xs) (dats ys) = decide (xs = ys) := by
  unfold dats
  rw [PyData.eqv]
  exact eqvAll_ints xs ys
theorem canLay_ints : ∀ xs : List Int, PyData.canLayAll0 (xs.map .int) = true
  | [] => rfl
  | x :: xs => by
    show (PyData.canLay0 (.int x) && PyData.canLayAll0 (xs.map .int)) = true
    rw [canLay_ints xs]
    rfl
theorem depth_ints : ∀ xs : List Int, PyData.depthAll (xs.map .int) = 0
  | [] => rfl
  | x :: xs => by
    show max (PyData.depth (.int x)) (PyData.depthAll (xs.map .int)) = 0
    rw [depth_ints xs]
    rfl
theorem shaped_dats (xs : List Int) : SeqAt.shaped (dats xs) = true := by
  unfold SeqAt.shaped dats
  rw [Bool.and_eq_true]
  refine ⟨canLay_ints xs, decide_eq_true ?_⟩
  show PyData.depthAll (xs.map .int) + 1 ≤ 64
  rw [depth_ints]
  decide
theorem dp_all {K : PySem.W.Frag} {H : Hp} : ∀ xs : List Int, DpAll K H (xs.map V.int) (xs.map PyData.int)
  | [] => .nil
  | x :: xs => .cons (.int x) (dp_all xs)
theorem dp_ints {K : PySem.W.Frag} {H : Hp} {a : Addr} {xs : List Int} (h : SqL K H a (xs.map V.int)) : Dp K H (.ref a) (dats xs) := .lst h (dp_all xs)
theorem eq_lists {K : PySem.W.Frag} {H : Hp} {a b : Addr} {xs ys : List Int} {Q : VK} (ha : SqL K H a (xs.map V.int)) (hb : SqL K H b (ys.map V.int)) (q : Q (.bl (decide (xs = ys))) H) : rEqD K (.ref a) (.ref b) H Q :=
  ⟨dats xs, dats ys, dp_ints ha, dp_ints hb, shaped_dats xs, shaped_dats ys, by rw [eqv_dats]; exact q⟩
theorem ne_lists {K : PySem.W.Frag} {H : Hp} {a b : Addr} {xs ys : List Int} {Q : VK} (ha : SqL K H a (xs.map V.int)) (hb : SqL K H b (ys.map V.int)) (q : Q (.bl (!decide (xs = ys))) H) : rNeD K (.ref a) (.ref b) H Q :=
  ⟨dats xs, dats ys, dp_ints ha, dp_ints hb, shaped_dats xs, shaped_dats ys, by rw [eqv_dats]; exact q⟩
/-- as many, by their items -/
theorem toInts_eq {n : Nat} {c d : Nat → Int} : toInts n c = toInts n d ↔ ∀ i, i < n → c i = d i := by
  constructor
  · intro h
    exact iL_inj (by rw [iL_toInts, iL_toInts, h])
  · intro h
    unfold toInts
    exact List.map_congr_left fun i hi => h i (List.mem_range.mp hi)
/-- equal lists of whole numbers: the two words -/
theorem iL_eq {K : PySem.W.Frag} {H : Hp} {a b : Addr} {n : Nat} {c d : Nat → Int} {Q : VK} (ha : SqL K H a (iL n c)) (hb : SqL K H b (iL n d)) (e : ∀ i, i < n → c i = d i) (q : Q (.bl true) H) : rEqD K (.ref a) (.ref b) H Q := by
  rw [iL_toInts] at ha hb
  refine eq_lists ha hb ?_
  rw [decide_eq_true (toInts_eq.mpr e)]
  exact q
theorem iL_ne {K : PySem.W.Frag} {H : Hp} {a b : Addr} {n : Nat} {c d : Nat → Int} {Q : VK} (ha : SqL K H a (iL n c)) (hb : SqL K H b (iL n d)) (e : ∀ i, i < n → c i = d i) (q : Q (.bl false) H) : rNeD K (.ref a) (.ref b) H Q := by
  rw [iL_toInts] at ha hb
  refine ne_lists ha hb ?_
  rw [decide_eq_true (toInts_eq.mpr e)]
  exact q

/-! ### rests -/
theorem fmod_rng (m : Int) {q : Nat} (hq : 0 < q) : ∃ k : Nat, k < q ∧ m.fmod (q : Int) = (k : Int) := by
  have h0 := Int.fmod_nonneg_of_pos m (show (0 : Int) < (q : Int) by omega)
  have h1 := Int.fmod_lt_of_pos m (show (0 : Int) < (q : Int) by omega)
  exact ⟨(m.fmod (q : Int)).toNat, by omega, by omega⟩
/-- an item of a written row at a rest -/
theorem at_rest (xs : List Int) (m : Int) (q : Nat) (hq : xs.length = q) (h0 : 0 < q) : ∃ v, v ∈ xs ∧ atI (xs.map V.int) (m.fmod (q : Int)) = some (.int v) := by
  obtain ⟨k, hk, e⟩ := fmod_rng m h0
  have hk' : k < xs.length := by omega
  refine ⟨xs[k], List.getElem_mem hk', ?_⟩
  refine at_of e ?_
  rw [List.getElem?_map, List.getElem?_eq_getElem hk']
  rfl
/-- % by a number above nought hands on a letter -/
theorem rd_mod {i j : Int} {q : Nat} {H : Hp} {Q : VK} (e : j = (q : Int)) (h : 0 < q) (k : ∀ r : Nat, r < q → i.fmod (q : Int) = (r : Int) → Q (.int (r : Int)) H) : rI (fun _ j => j ≠ 0) (fun i j => .int (i.fmod j)) (.int i) (.int j) H Q := by
  obtain ⟨r, h1, h2⟩ := fmod_rng i h
  subst e
  refine ⟨i, (q : Int), rfl, rfl, by omega, ?_⟩
  have := k r h1 h2
  rw [← h2] at this
  exact this

/-! ### a comprehension over a walk whose element is a value of the turn -/
theorem lc_fun {J : It} {n : Nat} {G : Hp → Prop} {Y : Nat → Hp → V → Hp → Prop} (w : Walk J n G Y) {g : TG} {tt : TT} {te : TE} {vs : List Nat} {σ : L2.St} {H1 : Hp} {D : Addr} {Qd : Hp → Prop} (f : Nat → V) (hn : n ≤ 100000) (hD : H1 D = none)
    (hG : ∀ H, Same H1 H → G H)
    (hs : ∀ (i : Nat) (x : V) (H H' : Hp), i < n → Same H1 H → Y i H x H' → ∀ (Q : VK) (R : Hp → Prop), (∀ H4, Same H H4 → Q (f i) H4) →
      g x (wipe σ vs) H' fun σ2 H2 => wipe σ2 vs = wipe σ vs ∧ tt σ2 H2 fun b H3 => if b = true then te σ2 H3 Q else R H3)
    (hd : ∀ H, Same H1 H → H D = some (.lst ((List.range n).map f)) → Qd H) :
    ∃ W : Nat → Nat → Hp → Prop, (∃ m, W 0 m (upd H1 D (.lst []))) ∧ ∀ i m H, W i m H →
      (J.stop i H ∧ Qd H) ∨ (J.go i H ∧ ∃ Nx : Hp → Prop, (∀ H', Nx H' → ∃ m', m' < m ∧ W (i + 1) m' H') ∧ ∀ x H', J.yld i H x H' → g x (wipe σ vs) H' fun σ2 H2 => wipe σ2 vs = wipe σ vs ∧ tt σ2 H2 fun b H3 =>
        if b = true then te σ2 H3 fun y H4 => ∃ acc, H4 D = some (.lst acc) ∧ acc.length < sizeLine ∧ Nx (upd H4 D (.lst (acc ++ [y]))) else Nx H3) := by
  refine lc_it w (fun i H => Same H1 H ∧ H D = some (.lst ((List.range i).map f))) ⟨same_new hD, upd_same⟩ (fun i H _ p => hG H p.1) (fun i x H H' hi p y => ?_) (fun H p => hd H p.1 p.2)
  refine hs i x H H' hi p.1 y _ _ fun H4 s4 => ?_
  refine ⟨_, s4 _ _ p.2, ?_, same_mut (p.1.trans s4) hD, ?_⟩
  · rw [List.length_map, List.length_range]
    exact lt_line (by omega)
  · rw [upd_same, List.range_succ, List.map_append]
    rfl
/-- .. with a test -/
def kept (n : Nat) (p : Nat → Bool) (f : Nat → V) : List V := ((List.range n).filter p).map f
theorem kept_succ (n : Nat) (p : Nat → Bool) (f : Nat → V) : kept (n + 1) p f = kept n p f ++ (if p n = true then [f n] else []) := by
  unfold kept
  rw [List.range_succ, List.filter_append, List.map_append]
  cases h : p n <;> simp [h]
theorem kept_len (n : Nat) (p : Nat → Bool) (f : Nat → V) : (kept n p f).length ≤ n := by
  unfold kept
  rw [List.length_map]
  have := List.length_filter_le p (List.range n)
  rw [List.length_range] at this
  exact this
theorem lc_if {J : It} {n : Nat} {G : Hp → Prop} {Y : Nat → Hp → V → Hp → Prop} (w : Walk J n G Y) {g : TG} {tt : TT} {te : TE} {vs : List Nat} {σ : L2.St} {H1 : Hp} {D : Addr} {Qd : Hp → Prop} (p : Nat → Bool) (f : Nat → V) (hn : n ≤ 100000) (hD : H1 D = none)
    (hG : ∀ H, Same H1 H → G H)
    (hs : ∀ (i : Nat) (x : V) (H H' : Hp), i < n → Same H1 H → Y i H x H' → ∀ (Q : VK) (R : Hp → Prop), (p i = true → ∀ H4, Same H H4 → Q (f i) H4) → (p i = false → ∀ H4, Same H H4 → R H4) →
      g x (wipe σ vs) H' fun σ2 H2 => wipe σ2 vs = wipe σ vs ∧ tt σ2 H2 fun b H3 => if b = true then te σ2 H3 Q else R H3)
    (hd : ∀ H, Same H1 H → H D = some (.lst (kept n p f)) → Qd H) :
    ∃ W : Nat → Nat → Hp → Prop, (∃ m, W 0 m (upd H1 D (.lst []))) ∧ ∀ i m H, W i m H →
      (J.stop i H ∧ Qd H) ∨ (J.go i H ∧ ∃ Nx : Hp → Prop, (∀ H', Nx H' → ∃ m', m' < m ∧ W (i + 1) m' H') ∧ ∀ x H', J.yld i H x H' → g x (wipe σ vs) H' fun σ2 H2 => wipe σ2 vs = wipe σ vs ∧ tt σ2 H2 fun b H3 =>
        if b = true then te σ2 H3 fun y H4 => ∃ acc, H4 D = some (.lst acc) ∧ acc.length < sizeLine ∧ Nx (upd H4 D (.lst (acc ++ [y]))) else Nx H3) := by
  refine lc_it w (fun i H => Same H1 H ∧ H D = some (.lst (kept i p f))) ⟨same_new hD, upd_same⟩ (fun i H _ q => hG H q.1) (fun i x H H' hi q y => ?_) (fun H q => hd H q.1 q.2)
  refine hs i x H H' hi q.1 y _ _ (fun hp H4 s4 => ?_) (fun hp H4 s4 => ?_)
  · refine ⟨_, s4 _ _ q.2, lt_line (Nat.le_trans (kept_len i p f) (by omega)), same_mut (q.1.trans s4) hD, ?_⟩
    rw [upd_same, kept_succ, if_pos hp]
  · refine ⟨q.1.trans s4, ?_⟩
    rw [s4 _ _ q.2, kept_succ, if_neg (by rw [hp]; decide), List.append_nil]
end JR

namespace JR
open PySem PySem.Spec PyProof.Rows L2
/-! ### enumerate(text) -/
def Itx (x : Str) : It := ⟨fun i _ => i < x.cps.size, fun i H v H' => ∃ T c, v = .ref T ∧ H T = none ∧ x.cps[i]? = some c ∧ H' = upd H T (.tup [.int (i : Nat), .str ⟨#[c]⟩]), fun i _ => x.cps.size ≤ i⟩
theorem draws_txt {prog : Program} {w : World} {A : Around} (hh : A.handled = none) (it : Addr) (x : Str) (t : Tok) {ty : String} (hty : ty = "str_ascii_iterator" ∨ ty = "str_iterator") :
    Draws prog w A it [it] x.cps.size (fun i v => ∃ c u, x.cps[i]? = some c ∧ v = .str ⟨#[c]⟩ u) (fun i h => h.IsStrIter it ty x t i) := by
  rcases hty with e | e
  · rw [e]; exact Draws.strAscii hh it x t
  · rw [e]; exact Draws.strWide hh it x t
theorem turn_enumS {P : Program} {w : World} {K : PySem.W.Frag} {elts : List Expr} {kk : Nat} {tpos : Pos} (x : Str) (t : Tok) (ty : String) (hty : ty = "str_ascii_iterator" ∨ ty = "str_iterator") (e it : Addr) :
    Turn P w K (.Tuple elts kk tpos) (Itx x) [e, it] e (fun i h => (∃ old, IsEnum h e it ((i : Nat) : Int) old) ∧ h.IsStrIter it ty x t i ∧ e ≠ it ∧ i ≤ x.cps.size) where
  mem := by simp
  obj := fun i h st b hb => by
    obtain ⟨⟨old, he⟩, ⟨o, ho, hc, hd⟩, _⟩ := st
    have e' : b = e ∨ b = it := by simpa using hb
    rcases e' with z | z
    · rw [z]; exact ⟨_, he, fun v q => nomatch q⟩
    · rw [z]; exact ⟨o, ho, fun v q => by rw [hd] at q; cases q⟩
  keep := fun i h h' st k => by
    obtain ⟨⟨old, he⟩, ⟨o, ho, r⟩, hne, hi⟩ := st
    exact ⟨⟨old, k e (by simp) _ he⟩, ⟨o, k it (by simp) _ ho, r⟩, hne, hi⟩
  item := by
    intro X hP hw hK hc i pins s σ H E I hf st hg
    subst hP hw hK
    obtain ⟨⟨old, he⟩, hit, hne, hi⟩ := st
    have hlt : i < x.cps.size := hg
    have hel : e < s.heap.objs.size := Heap.lt_size he
    have hil : it < s.heap.objs.size := by obtain ⟨_, q, _⟩ := hit; exact Heap.lt_size q
    refine wpAny_pyNext_enum_itemD (draws_txt (prog := X.prog) (w := X.w) (show X.A.in1.handled = none from I.ok.hd hc) it x t hty) he hit hlt hne (by simpa using hne) fun x' h' tk hP ho hit' hT hsz hk => ?_
    obtain ⟨c, u, hcx, rfl⟩ := hP
    refine ⟨_, rfl, wpAny_letOwnedTupleGo_enum (s := { s with heap := h', toks := tk + 1 }) ho fun h'' he' sb => ?_⟩
    have hT2 : h''.get? s.heap.objs.size = some { cls := .type "tuple", data := .seq #[.int i tk, .str ⟨#[c]⟩ u] } := (sb.2 _ (Nat.ne_of_gt hel)).trans hT
    have new : ObjOk X.prog X.w (upd H s.heap.objs.size (.tup [.int (i : Nat), .str ⟨#[c]⟩])) h'' s.heap.objs.size (.tup [.int (i : Nat), .str ⟨#[c]⟩]) :=
      ⟨by show 2 ≤ sizeLine; decide, [.int i tk, .str ⟨#[c]⟩ u], .cons ⟨_, rfl⟩ (.cons ⟨_, rfl⟩ .nil), ⟨_, hT2, rfl, _, rfl⟩⟩
    have I1 : Inv X pins σ (upd H s.heap.objs.size (.tup [.int (i : Nat), .str ⟨#[c]⟩])) { s with heap := h'', toks := tk + 1 } :=
      I.turnedNew (ch := [e, it]) (fun b ob hb q => (sb.2 b (fun z => hb (by simp [z]))).trans (hk b ob (fun z => hb (by simp [z])) (fun z => hb (by simp [z])) q)) hf (Nat.le_refl _) new
    refine ⟨.ref s.heap.objs.size, _, I1, rfl, ⟨_, c, rfl, I.hok.fresh (Nat.le_refl _), hcx, rfl⟩, ⟨⟨.str ⟨#[c]⟩ u, ?_⟩, ?_, hne, hlt⟩, fun b hb => ?_⟩
    · have e1 : ((i + 1 : Nat) : Int) = (i : Int) + 1 := by omega
      rw [e1]; exact he'
    · obtain ⟨o, ho2, r⟩ := hit'
      exact ⟨o, (sb.2 it (Ne.symm hne)).trans ho2, r⟩
    · have hb' : b < s.heap.objs.size := by
        have e' : b = e ∨ b = it := by simpa using hb
        rcases e' with z | z
        · rw [z]; exact hel
        · rw [z]; exact hil
      rw [upd_ne (Nat.ne_of_lt hb')]
      exact (hf b hb).1
  done := by
    intro X hP hw hK hc i pins s σ H E I hf st hg
    subst hP hw hK
    obtain ⟨⟨old, he⟩, hit, hne, hi⟩ := st
    obtain ⟨f0, f1, f2, f3, f4, f5⟩ := hf it (by simp)
    have hge : x.cps.size ≤ i := hg
    have ei : i = x.cps.size := by omega
    subst ei
    exact wpAny_pyNext_enum_endD (draws_txt (prog := X.prog) (w := X.w) (show X.A.in1.handled = none from I.ok.hd hc) it x t hty) he hit fun h' eb => ⟨rfl, I.turned (t' := s.toks) (fun b o hb q => eb b o hb q) f0 f1 f3 f4 f5⟩
  self := fun A i s Q E st h => let ⟨⟨_, he⟩, _⟩ := st; wpAny_pyIter_enum he h
def iEnumS (ta : TA) : TI := fun σ H R => ta σ H fun vs H1 => ∃ x, vs = [.str x] ∧ R (Itx x) H1
theorem pi_enumS {X : Cx} {e : Expr} {ta : TA} {p pos tpos : Pos} {elts : List Expr} {kk : Nat} (hg : Gl X "enumerate") (hm : X.mg "enumerate" = none) (ha : PA X [e] ta) (hs : starEach [e] X.env = [(false, eval e X.env)] := by rfl) :
    PI X (.Tuple elts kk tpos) (.Call (.Name "enumerate" p) [e] [] pos) (iEnumS ta) := by
  refine ⟨fun pins s σ H R I h => ?_⟩
  refine Call_ (ld_blt I hg hm boot_enumerate (PyProof.Rows.callWith_type1 (thn (ha.run pos pins s σ H _ I h) fun us s1 ⟨vs, H1, I1, r1, q1⟩ => ?_) hs rfl))
  obtain ⟨x, ex, q⟩ := q1
  subst ex
  cases r1 with
  | cons r rr =>
    cases rr
    obtain ⟨t, rfl⟩ := r
    refine call_enumerate_str fun h' he hit hsz hk => wpAny_pyIter_enum he ?_
    have I2 : Inv X pins σ H1 { s1 with heap := h' } := I1.kept (t' := s1.toks) hk
    have hty : strIterType x = "str_ascii_iterator" ∨ strIterType x = "str_iterator" := by
      unfold strIterType
      split
      · exact .inl rfl
      · exact .inr rfl
    refine ⟨s1.heap.objs.size + 1, [s1.heap.objs.size + 1, s1.heap.objs.size], _, _, H1, rfl, I2, turn_enumS x t (strIterType x) hty (s1.heap.objs.size + 1) s1.heap.objs.size, ⟨⟨.none, he⟩, hit, Nat.succ_ne_self _, Nat.zero_le _⟩, fun b hb => ?_, q⟩
    have e' : b = s1.heap.objs.size + 1 ∨ b = s1.heap.objs.size := by simpa using hb
    have hle : s1.heap.objs.size ≤ b := by
      rcases e' with z | z
      · rw [z]; exact Nat.le_add_right _ _
      · rw [z]; exact Nat.le_refl _
    exact I1.fpOk hle (I1.hok.fresh hle)
theorem walk_enumS {x : Str} {n : Nat} (hn : x.cps.size = n) : Walk (Itx x) n (fun _ => True) (fun i H v H' => ∃ T c, v = .ref T ∧ H T = none ∧ x.cps[i]? = some c ∧ H' = upd H T (.tup [.int (i : Nat), .str ⟨#[c]⟩])) :=
  ⟨fun i H hi _ => (by subst hn; exact hi), fun H _ => (by subst hn; exact Nat.le_refl _), fun i H v H' _ _ y => y⟩
theorem walk_signs {x : Str} {n : Nat} (hn : x.cps.size = n) : Walk (Its x) n (fun _ => True) (fun i H v H' => H' = H ∧ ∃ c, x.cps[i]? = some c ∧ v = .str ⟨#[c]⟩) :=
  ⟨fun i H hi _ => (by subst hn; exact hi), fun H _ => (by subst hn; exact Nat.le_refl _), fun i H v H' _ _ y => y⟩
/-! ### text[::-1] -/
def tRevS (te : TE) : TE := fun σ H Q => te σ H fun x H1 => ∃ z : Str, x = .str z ∧ z.length ≤ sizeLine ∧ Q (.str ⟨z.cps.toList.reverse.toArray⟩) H1
theorem pe_revS {X : Cx} {e : Expr} {te : TE} {k : Nat} {p1 p2 p3 pos : Pos} (he : PE X e te) : PE X (.Subscript e (.Slice none none (some (.UnaryOp .USub (.Constant (.int 1) k p1) p2)) p3) pos) (tRevS te) := by
  refine ⟨fun pins s σ H Q I h => ?_⟩
  refine Subscript_ (thn (he.run pins s σ H _ I h) fun v s1 ⟨x, H1, I1, r1, q1⟩ => ?_)
  obtain ⟨z, ex, hz, q⟩ := q1
  subst ex
  obtain ⟨t, rfl⟩ := r1
  have hst : PO X (some (.UnaryOp .USub (.Constant (.int 1) k p1) p2)) (tPart (tUn (rU fun i => .int (-i)) (tC (.int 1)))) := po_some (pe_un un_neg pe_int)
  refine wpAny_Slice (thn (po_none.run pins s1 σ H1 (fun o H2 => o = none ∧ H2 = H1) I1 ⟨rfl, rfl⟩) fun vl s2 ⟨l, H2, I2, pl, el, e2⟩ => ?_)
  subst el e2
  refine thn (po_none.run pins s2 σ H2 (fun o H3 => o = none ∧ H3 = H2) I2 ⟨rfl, rfl⟩) fun vu s3 ⟨u, H3, I3, pu, eu, e3⟩ => ?_
  subst eu e3
  refine thn (hst.run pins s3 σ H3 (fun o H4 => o = some (-1) ∧ H4 = H3) I3 ⟨1, rfl, -1, rfl, rfl, rfl⟩) fun vs s4 ⟨o, H4, I4, ps, eo, e4⟩ => ?_
  subst eo e4
  have I5 : Inv X pins σ H4 { s4 with heap := s4.heap.push { cls := .type "slice", data := .fields #[vl, vu, vs] } } := I4.kept (t' := s4.toks) fun b ob q => Heap.get?_push_of_some _ q
  show wpAny (model X.prog X.w) X.A (subscriptTail e (.Slice none none (some (.UnaryOp .USub (.Constant (.int 1) k p1) p2)) p3) (.str z t) (.ref s4.heap.objs.size)) (EP X pins σ Q) X.xe { s4 with heap := s4.heap.push { cls := .type "slice", data := .fields #[vl, vu, vs] } }
  refine tail_any (ops := [.str z t, .ref s4.heap.objs.size]) (typeIs_str _ z t) PySem.F.slot_str_getitem.lookup ?_ (by with_unfolding_all rfl)
  obtain ⟨l, rfl, el⟩ := IsPart.raw pl
  obtain ⟨u, rfl, eu⟩ := IsPart.raw pu
  obtain ⟨m, rfl, em⟩ := IsPart.raw ps
  have hm : ((m.map (·.1)).getD 1) = -1 := by rw [em]; rfl
  refine wpAny_getItem_str_slice (l := l) (u := u) (st := m) ⟨_, Heap.get?_push_size _ rfl, rfl, rfl⟩ (by rw [hm]; rfl) ?_
  have epick : ((slicePicked z l u m).filterMap (z.cps[·]?)) = z.cps.toList.reverse := by
    unfold slicePicked
    rw [el, eu, hm]
    show (Builtin.Str.strSliceIndices none none (-1) z.cps.size).filterMap (z.cps[·]?) = _
    show (sliceRange ((z.cps.size : Int) - 1) (-1) (-1)).filterMap (z.cps[·]?) = _
    rw [PySem.W.krv_sliceRange, PySem.W.krv_range, List.filterMap_reverse, PySem.W.krv_all]
  unfold sliceMade
  rw [hm, if_neg (by rw [show ((-1 : Int) == 1) = false from rfl, Bool.false_and]; decide), epick]
  refine ⟨?_, .str _, H4, I5.tok _, ⟨_, rfl⟩, q⟩
  show (z.cps.toList.reverse.toArray).size ≤ sizeLine
  rw [List.size_toArray, List.length_reverse, Array.length_toList]
  exact hz
/-! ### sorted(text), fewer than 64 signs -/
def signs (z : Str) : List Str := z.cps.toList.map fun c => ⟨#[c]⟩
def rSortedTxt : List V → Hp → VK → Prop := fun xs H Q => ∃ z : Str, xs = [.str z] ∧ z.cps.size < 64 ∧ ∀ (ys : List Str) (p : Addr), ys.Perm (signs z) → H p = none → Q (.ref p) (upd H p (.lst (ys.map V.str)))
theorem strs_by : ∀ {us : List Value} {ks : List Str}, us.length = ks.length → (∀ (j : Nat) (v : Value), us[j]? = some v → ∃ (x : Str) (t : Tok), ks[j]? = some x ∧ v = Value.str x t) → StrsAre us ks
  | [], [], _, _ => .nil
  | [], _ :: _, hl, _ => absurd hl (by simp)
  | _ :: _, [], hl, _ => absurd hl (by simp)
  | u :: us, k :: ks, hl, h => by
    obtain ⟨x, t, e1, e2⟩ := h 0 u rfl
    cases e1
    subst e2
    exact .cons _ _ (strs_by (Nat.succ.inj hl) fun j v e => h (j + 1) v e)
theorem cr_sortedTxt {X : Cx} (hc : X.calm = true) : CallR X (.builtin "sorted") rSortedTxt := by
  intro pins s σ H xs us Q I r h
  obtain ⟨z, rfl, hz, q⟩ := h
  obtain ⟨u, rfl, t, rfl⟩ := vals1 r
  refine Calls.call_function_entry kind_sorted plain_sorted entry_sorted (args_sorted1 _) ?_
  unfold Builtin.«sorted»
  refine wpAny_bind (m := checkCount "sorted" 1 1 _) (wpAny_pure ?_)
  have hn : z.cps.size ≤ sizeLine := Nat.le_trans (Nat.le_of_lt hz) (by decide)
  refine wpAny_bind (wpAny_collect_str (show X.A.in1.handled = none from I.ok.hd hc) z t (fun s' acc hk hg hd ho hacc => ?_) hn)
  obtain ⟨h1, g1, d1, tk1, os1⟩ := s'
  have hg : g1 = s.gens := hg
  have hd : d1 = s.drawn := hd
  have ho : os1 = s.os := ho
  subst hg hd ho
  have hlen : acc.toList.length = z.cps.size := by rw [Array.length_toList]; exact hacc.1
  have hS : StrsAre acc.toList (signs z) := by
    refine strs_by (by unfold signs; rw [hlen, List.length_map, Array.length_toList]) fun j v e => ?_
    obtain ⟨c, u, h2, h3⟩ := hacc.2 j v (by rw [← Array.getElem?_toList]; exact e)
    refine ⟨⟨#[c]⟩, u, ?_, h3⟩
    unfold signs
    rw [List.getElem?_map, Array.getElem?_toList, h2]
    rfl
  refine wpAny_bind (wpAny_newList ?_ (by omega))
  have hoL : (h1.push (seqObj "list" acc.toList.toArray 0)).get? h1.objs.size = some (seqObj "list" acc.toList.toArray 0) := Heap.get?_push_size _ rfl
  show wpAny _ _ _ _ _ { s with heap := h1.push (seqObj "list" acc.toList.toArray 0), toks := tk1 }
  refine wpAny_bind (wpAny_holding (wpAny_call_entry slot_list_sort ⟨_, hoL, rfl⟩ entry_list_sort (list_sort_treeK strKind_oneLt hoL hS.keysOf (fun v₁ v₂ rest e => keyKind_strs (by rw [← e]; exact hS)) (by rw [hlen]; exact hz) fun st' hp hs => ⟨_, rfl, ?_⟩) (args_list_sort _)))
  obtain ⟨ys, y1, y2, y3⟩ := sorted_out_str hS hp hs
  obtain ⟨ep, he'⟩ := PyProof.Rows.sortedHeap_at (vs := acc.toList) (out := (arrOf st').map (·.2)) hoL
  have I1 : Inv X pins σ H { s with heap := h1, toks := tk1 } := I.kept (t' := tk1) hk
  have hl2 : (ys.map V.str).length ≤ sizeLine := by
    rw [List.length_map, y2.length_eq]
    unfold signs
    rw [List.length_map, Array.length_toList]
    exact hn
  refine wpAny_pure ⟨_, rfl, .ref _, upd H h1.objs.size (.lst (ys.map V.str)), I1.laid (t' := tk1) (fun b ob e => ?_) (Nat.le_refl _) ⟨hl2, ((arrOf st').map (·.2)).toList, ep, vals_of_strs y1, by rw [Array.toArray_toList]; exact he'⟩, rfl, q _ _ y2 (I1.hok.fresh (Nat.le_refl _))⟩
  have hlt : b < h1.objs.size := Heap.lt_size e
  rw [PyProof.Rows.sortedHeap_old (Nat.ne_of_lt hlt) (by rw [Heap.size_push]; exact Nat.lt_succ_of_lt hlt)]
  exact Heap.get?_push_of_some _ e
end JR

namespace JR
open PySem PySem.Spec PyProof.Rows L2
/-! ### rings as texts -/
def code (b : Bool) : Nat := if b = true then 99 else 46
def one (b : Bool) : Str := ⟨#[code b]⟩
/-- the text of a ring of n places -/
def tx (n : Nat) (x : Int → Bool) : Str := ⟨((List.range n).map fun i => code (x (i : Nat))).toArray⟩
theorem code_inj {a b : Bool} (h : code a = code b) : a = b := by
  cases a <;> cases b <;> first | rfl | exact absurd h (by decide)
theorem one_c : one true = ("c" : Str) := by decide +kernel
theorem one_d : one false = ("." : Str) := by decide +kernel
theorem is_c (b : Bool) : decide (V.str (one b) = V.str ("c" : Str)) = b := by
  cases b with
  | true => exact decide_eq_true (congrArg V.str one_c)
  | false => exact decide_eq_false fun h => absurd (V.str.inj h) (by decide +kernel)
theorem is_d (b : Bool) : decide (V.str (one b) = V.str ("." : Str)) = !b := by
  cases b with
  | false => exact decide_eq_true (congrArg V.str one_d)
  | true => exact decide_eq_false fun h => absurd (V.str.inj h) (by decide +kernel)
section
variable {n : Nat} {x y : Int → Bool}
theorem tx_list : (tx n x).cps.toList = (List.range n).map fun i => code (x (i : Nat)) := rfl
theorem tx_size : (tx n x).cps.size = n := by
  unfold tx
  rw [List.size_toArray, List.length_map, List.length_range]
theorem tx_len : (tx n x).length = n := tx_size
theorem tx_get {i : Nat} (h : i < n) : (tx n x).cps[i]? = some (code (x i)) := by
  rw [← Array.getElem?_toList, tx_list, List.getElem?_map, List.getElem?_range h]
  rfl
theorem tx_sign {i c : Nat} (h : i < n) (e : (tx n x).cps[i]? = some c) : (⟨#[c]⟩ : Str) = one (x i) := by
  rw [tx_get h] at e
  cases e
  rfl
theorem tx_at (h : Per n x) (hn : 0 < n) {z : Int} (h1 : -1 ≤ z) (h2 : z < n) : atI (tx n x).cps.toList z = some (code (x z)) := by
  by_cases h0 : 0 ≤ z
  · obtain ⟨i, rfl⟩ : ∃ i : Nat, z = (i : Int) := ⟨z.toNat, by omega⟩
    refine atI_nat ?_
    rw [tx_list, List.getElem?_map, List.getElem?_range (by omega)]
    rfl
  · have e : z = -1 := by omega
    subst e
    obtain ⟨m, rfl⟩ : ∃ m, n = m + 1 := ⟨n - 1, by omega⟩
    rw [tx_list, List.range_succ, List.map_append]
    have e := atI_last ((List.range m).map fun i => code (x ((i : Nat) : Int))) (code (x (m : Nat)))
    rw [show x (-1) = x (m : Nat) by
      have := h (-1)
      rw [show (-1 : Int) + ((m + 1 : Nat) : Int) = (m : Nat) by omega] at this
      exact this.symm]
    exact e
theorem tx_congr (h : ∀ i : Nat, i < n → x i = y i) : tx n x = tx n y := by
  unfold tx
  refine congrArg (fun l : List Nat => (⟨l.toArray⟩ : Str)) (List.map_congr_left fun i hi => ?_)
  rw [h i (List.mem_range.mp hi)]
theorem tx_inj (h : tx n x = tx n y) : ∀ i : Nat, i < n → x i = y i := fun i hi => by
  have e : (tx n x).cps[i]? = (tx n y).cps[i]? := by rw [h]
  rw [tx_get hi, tx_get hi] at e
  exact code_inj (Option.some.inj e)
/-! ### joined -/
def onesL (n : Nat) (x : Int → Bool) : List Str := (List.range n).map fun i => one (x (i : Nat))
theorem joinL_one {α : Type} (f : α → Nat) : ∀ l : List α, TL.joinL [] (l.map fun a => [f a]) = l.map f
  | [] => rfl
  | [a] => rfl
  | a :: b :: r => by
    show [f a] ++ ([] ++ TL.joinL [] ((b :: r).map fun a => [f a])) = _
    rw [joinL_one f (b :: r)]
    rfl
theorem join_ones : Txt.join (SX.S []) (onesL n x) = tx n x := by
  have e : onesL n x = ((List.range n).map fun i => [code (x (i : Nat))]).map SX.S := by
    unfold onesL
    rw [List.map_map]
    rfl
  rw [e, SX.join_S, joinL_one]
  rfl
theorem ones_sum : ((onesL n x).map (·.length)).sum + (onesL n x).length * 0 = n := by
  rw [Nat.mul_zero, Nat.add_zero]
  unfold onesL
  rw [List.map_map]
  induction n with
  | zero => rfl
  | succ n ih =>
    rw [List.range_succ, List.map_append, List.sum_append, ih]
    rfl
theorem ones_V : (onesL n x).map V.str = (List.range n).map fun i => V.str (one (x (i : Nat))) := by
  unfold onesL
  rw [List.map_map]
  rfl
/-! ### slices -/
theorem tx_S : tx n x = SX.S ((List.range n).map fun i => code (x (i : Nat))) := rfl
theorem cut_from {f : Int} (h : 0 ≤ f) : cutS (tx n x) (some f) none = SX.S (((List.range n).map fun i => code (x (i : Nat))).drop f.toNat) := by
  rw [C8.cutS_slice]
  exact SX.slice_from h
theorem cut_to {f : Int} (h : 0 ≤ f) : cutS (tx n x) none (some f) = SX.S (((List.range n).map fun i => code (x (i : Nat))).take f.toNat) := by
  rw [C8.cutS_slice]
  exact SX.slice_to h
theorem tx_turn (h : Per n x) {f : Int} (h0 : 0 ≤ f) (h1 : f ≤ n) : cutS (tx n x) (some f) none ++ cutS (tx n x) none (some f) = tx n (shf f x) := by
  rw [cut_from h0, cut_to h0, SX.S_cat, tx_S]
  refine congrArg SX.S ?_
  obtain ⟨g, rfl⟩ : ∃ g : Nat, f = (g : Int) := ⟨f.toNat, by omega⟩
  rw [Int.toNat_natCast]
  refine List.ext_getElem? fun i => ?_
  by_cases hi : i < n
  · rw [List.getElem?_map (l := List.range n) (i := i), List.getElem?_range hi]
    by_cases hg : i < n - g
    · rw [List.getElem?_append_left (by rw [List.length_drop, List.length_map, List.length_range]; exact hg), List.getElem?_drop, List.getElem?_map, List.getElem?_range (by omega)]
      show some (code (x ((g + i : Nat) : Int))) = some (code (x ((i : Nat) + (g : Int))))
      rw [show ((g + i : Nat) : Int) = (i : Nat) + (g : Int) by omega]
    · rw [List.getElem?_append_right (by rw [List.length_drop, List.length_map, List.length_range]; omega), List.length_drop, List.length_map, List.length_range, List.getElem?_take_of_lt (by omega), List.getElem?_map, List.getElem?_range (by omega)]
      show some (code (x ((i - (n - g) : Nat) : Int))) = some (code (x ((i : Nat) + (g : Int))))
      have := h.neg ((i : Nat) + (g : Int))
      rw [show ((i : Nat) : Int) + (g : Int) - (n : Int) = ((i - (n - g) : Nat) : Int) by omega] at this
      rw [this]
  · rw [List.getElem?_eq_none (by rw [List.length_append, List.length_drop, List.length_take, List.length_map, List.length_range]; omega), List.getElem?_eq_none (by rw [List.length_map, List.length_range]; omega)]
theorem tx_more (h : Per n x) : tx n x ++ one (x 0) = tx (n + 1) x := by
  rw [tx_S, tx_S, show one (x 0) = SX.S [code (x 0)] from rfl, SX.S_cat, List.range_succ, List.map_append]
  have e := h 0
  rw [show (0 : Int) + (n : Int) = ((n : Nat) : Int) by omega] at e
  rw [← e]
  rfl
/-- one place on, one back -/
theorem tx_tail (h : Per n x) (hn : 0 < n) : cutS (tx n x) (some 1) none ++ one (x 0) = tx n (fun p => x (p + 1)) := by
  have e := tx_turn h (f := 1) (by decide) (by omega)
  have e2 : cutS (tx n x) none (some 1) = one (x 0) := by
    rw [cut_to (by decide)]
    obtain ⟨m, rfl⟩ : ∃ m, n = m + 1 := ⟨n - 1, by omega⟩
    rw [List.range_succ_eq_map]
    rfl
  rw [e2] at e
  exact e
theorem tx_head (h : Per n x) (hn : 0 < n) : one (x (-1)) ++ cutS (tx n x) none (some (-1)) = tx n (fun p => x (p - 1)) := by
  rw [C8.cutS_slice, tx_S, SX.slice_butlast (by
    obtain ⟨m, rfl⟩ : ∃ m, n = m + 1 := ⟨n - 1, by omega⟩
    rw [List.range_succ_eq_map]
    exact List.cons_ne_nil _ _), show one (x (-1)) = SX.S [code (x (-1))] from rfl, SX.S_cat, tx_S]
  refine congrArg SX.S ?_
  rw [List.length_map, List.length_range]
  obtain ⟨m, rfl⟩ : ∃ m, n = m + 1 := ⟨n - 1, by omega⟩
  rw [Nat.add_sub_cancel, ← List.map_take, List.take_range, Nat.min_eq_left (by omega), List.range_succ_eq_map, List.map_cons, List.map_map]
  show code (x (-1)) :: _ = code (x (((0 : Nat) : Int) - 1)) :: _
  rw [show ((0 : Nat) : Int) - 1 = -1 by omega]
  refine congrArg (List.cons _) (List.map_congr_left fun i _ => ?_)
  show code (x (i : Nat)) = code (x (((i + 1 : Nat) : Int) - 1))
  rw [show ((i + 1 : Nat) : Int) - 1 = (i : Nat) by omega]
/-- read from behind -/
theorem tx_rev : (⟨(tx n x).cps.toList.reverse.toArray⟩ : Str) = tx n (fun p => x (n - 1 - p)) := by
  refine congrArg (fun l : List Nat => (⟨l.toArray⟩ : Str)) ?_
  rw [tx_list]
  refine List.ext_getElem? fun i => ?_
  by_cases hi : i < n
  · rw [List.getElem?_reverse (by rw [List.length_map, List.length_range]; exact hi), List.length_map, List.length_range, List.getElem?_map, List.getElem?_map, List.getElem?_range (by omega), List.getElem?_range hi]
    show some (code (x ((n - 1 - i : Nat) : Int))) = some (code (x ((n : Int) - 1 - (i : Nat))))
    rw [show ((n - 1 - i : Nat) : Int) = (n : Int) - 1 - (i : Nat) by omega]
  · rw [List.getElem?_eq_none (by rw [List.length_reverse, List.length_map, List.length_range]; omega), List.getElem?_eq_none (by rw [List.length_map, List.length_range]; omega)]
/-! ### counted -/
open PySem.StrLaws PySem.Builtin.Str in
theorem occ_many (s sub : Str) (hi limit : Nat) (y : Int → Bool) (hy : ∀ i : Nat, y (i : Int) = decide (i + sub.length ≤ hi ∧ subAt s sub i = true)) (hno : ∀ i j : Nat, y (i : Int) = true → i < j → j < i + sub.length → y (j : Int) = false) :
    ∀ (k a : Nat) (st : Array Nat × Nat), st.1.size + k ≤ limit → (∀ j : Nat, a ≤ j → j < st.2 → y (j : Int) = false) → (forIn (List.range' a k) st (occBody s sub hi limit)).run.fst.size = st.1.size + cnt y (a : Int) k
  | 0, a, st, _, _ => rfl
  | k + 1, a, st, hl, hf => by
    rw [List.range'_succ, List.forIn_cons, cnt_left]
    unfold occBody
    cases q : y (a : Int) with
    | true =>
      have e := hy a
      rw [q] at e
      have e := of_decide_eq_true e.symm
      have hle : st.2 ≤ a := by
        refine Classical.byContradiction fun h => ?_
        have := hf a (Nat.le_refl a) (by omega)
        rw [q] at this
        cases this
      rw [if_pos ⟨⟨⟨by omega, hle⟩, e.1⟩, e.2⟩]
      have ih := occ_many s sub hi limit y hy hno k (a + 1) (st.1.push a, a + sub.length) (by show (st.1.push a).size + k ≤ limit; rw [Array.size_push]; omega) fun j h1 h2 => hno a j q (by omega) h2
      rw [show ((a + 1 : Nat) : Int) = (a : Int) + 1 by omega] at ih
      refine ih.trans ?_
      show (st.1.push a).size + _ = _
      rw [Array.size_push]
      show _ = st.1.size + (1 + _)
      omega
    | false =>
      have e := hy a
      rw [q] at e
      have e := of_decide_eq_false e.symm
      rw [if_neg fun h => e ⟨h.1.2, h.2⟩]
      have ih := occ_many s sub hi limit y hy hno k (a + 1) (st.1, st.2) (by show st.1.size + k ≤ limit; omega) fun j h1 h2 => hf j (by omega) h2
      rw [show ((a + 1 : Nat) : Int) = (a : Int) + 1 by omega] at ih
      refine ih.trans ?_
      show _ = st.1.size + (0 + _)
      rw [Nat.zero_add]
theorem count_of (s sub : Str) (y : Int → Bool) (hy : ∀ i : Nat, y (i : Int) = decide (i + sub.length ≤ s.length ∧ Builtin.Str.subAt s sub i = true)) (hno : ∀ i j : Nat, y (i : Int) = true → i < j → j < i + sub.length → y (j : Int) = false) :
    Txt.count s sub = ((cnt y 0 (s.length + 1) : Nat) : Int) := by
  unfold Txt.count
  rw [PySem.StrLaws.occ_eq, Array.length_toList]
  have e := occ_many s sub s.length (s.length + 1) y hy hno (s.length + 1) 0 (#[], 0) (by show 0 + (s.length + 1) ≤ s.length + 1; omega) fun j _ h2 => absurd h2 (Nat.not_lt_zero j)
  rw [show s.length + 1 - 0 = s.length + 1 by omega, e]
  show ((0 + cnt y 0 (s.length + 1) : Nat) : Int) = _
  rw [Nat.zero_add]
theorem tx_ext1 {i : Nat} (h : i < n) : (tx n x).cps.extract i (i + 1) = #[code (x i)] := by
  refine Array.ext_getElem? fun j => ?_
  rw [Array.getElem?_extract]
  cases j with
  | zero =>
    rw [if_pos (by rw [tx_size]; omega), Nat.add_zero, tx_get h]
    rfl
  | succ j =>
    rw [if_neg (by omega)]
    rfl
theorem tx_ext2 {i : Nat} (h : i + 1 < n) : (tx n x).cps.extract i (i + 2) = #[code (x i), code (x (i + 1))] := by
  refine Array.ext_getElem? fun j => ?_
  rw [Array.getElem?_extract]
  cases j with
  | zero =>
    rw [if_pos (by rw [tx_size]; omega), Nat.add_zero, tx_get (by omega)]
    rfl
  | succ j =>
    cases j with
    | zero =>
      rw [if_pos (by rw [tx_size]; omega), tx_get h]
      rfl
    | succ j =>
      rw [if_neg (by omega)]
      rfl
theorem count_one (b : Bool) : Txt.count (tx n x) (one b) = ((cnt (fun p => x p == b) 0 n : Nat) : Int) := by
  have e := count_of (tx n x) (one b) (fun p => decide (p < n) && (x p == b)) (fun i => ?_) (fun i j _ h1 h2 => ?_)
  · rw [e, tx_len]
    refine congrArg (fun k : Nat => (k : Int)) ?_
    show cnt _ 0 n + b2n (decide ((0 : Int) + (n : Nat) < n) && (x (0 + (n : Nat)) == b)) = _
    rw [decide_eq_false (by omega), Bool.false_and]
    show cnt _ 0 n + 0 = _
    rw [Nat.add_zero]
    refine cnt_congr fun i hi => ?_
    show (decide ((0 : Int) + (i : Nat) < n) && _) = _
    rw [decide_eq_true (by omega), Bool.true_and]
  · show (decide (((i : Nat) : Int) < n) && (x i == b)) = _
    rw [tx_len]
    by_cases h : i < n
    · rw [decide_eq_true (by omega), Bool.true_and]
      have e2 : Builtin.Str.subAt (tx n x) (one b) i = (x i == b) := by
        show ((tx n x).cps.extract i (i + 1) == #[code b]) = _
        rw [tx_ext1 h]
        cases x i <;> cases b <;> decide
      rw [e2]
      have e3 : i + (one b).length ≤ n := h
      cases q : (x (i : Nat) == b) with
      | true => exact (decide_eq_true ⟨e3, rfl⟩).symm
      | false => exact (decide_eq_false fun z => absurd z.2 (by decide)).symm
    · rw [decide_eq_false (by omega), Bool.false_and]
      exact (decide_eq_false fun z => h (show i + 1 ≤ n from z.1)).symm
  · exact absurd h2 (by show ¬ j < i + 1; omega)
theorem count_c : Txt.count (tx n x) ("c" : Str) = ((cnt x 0 n : Nat) : Int) := by
  rw [← one_c, count_one]
  refine congrArg (fun k : Nat => (k : Int)) (cnt_congr fun i _ => ?_)
  show (x (0 + (i : Nat)) == true) = _
  cases x (0 + (i : Nat)) <;> rfl
theorem count_d : Txt.count (tx n x) ("." : Str) = ((n - cnt x 0 n : Nat) : Int) := by
  rw [← one_d, count_one]
  refine congrArg (fun k : Nat => (k : Int)) ?_
  have e := cnt_not x 0 n
  have e2 : cnt (fun p => x p == false) 0 n = cnt (fun p => !x p) 0 n := cnt_congr fun i _ => by
    show (x (0 + (i : Nat)) == false) = !x (0 + (i : Nat))
    cases x (0 + (i : Nat)) <;> rfl
  omega
theorem cd_str : ("c." : Str) = ⟨#[99, 46]⟩ := by decide +kernel
theorem count_cd : Txt.count (tx (n + 1) x) ("c." : Str) = ((flw n x : Nat) : Int) := by
  rw [cd_str]
  have e2 : ∀ i : Nat, i < n → Builtin.Str.subAt (tx (n + 1) x) ⟨#[99, 46]⟩ i = mov x i := fun i h => by
    show ((tx (n + 1) x).cps.extract i (i + 2) == #[99, 46]) = _
    rw [tx_ext2 (by omega)]
    unfold mov
    cases x (i : Nat) <;> cases x ((i : Nat) + 1) <;> decide
  have e := count_of (tx (n + 1) x) ⟨#[99, 46]⟩ (fun p => decide (p < n) && mov x p) (fun i => ?_) (fun i j h0 h1 h2 => ?_)
  · rw [e, tx_len]
    refine congrArg (fun k : Nat => (k : Int)) ?_
    show (cnt _ 0 n + b2n (decide ((0 : Int) + (n : Nat) < n) && mov x (0 + (n : Nat)))) + b2n (decide ((0 : Int) + ((n + 1 : Nat) : Int) < n) && mov x (0 + ((n + 1 : Nat) : Int))) = _
    rw [decide_eq_false (by omega), decide_eq_false (by omega), Bool.false_and, Bool.false_and]
    show cnt _ 0 n = cnt (mov x) 0 n
    refine cnt_congr fun i hi => ?_
    show (decide ((0 : Int) + (i : Nat) < n) && _) = _
    rw [decide_eq_true (by omega), Bool.true_and]
  · show (decide (((i : Nat) : Int) < n) && mov x i) = _
    rw [tx_len]
    by_cases h : i < n
    · rw [decide_eq_true (by omega), Bool.true_and, e2 i h]
      cases q : mov x (i : Nat) with
      | true => exact (decide_eq_true ⟨show i + 2 ≤ n + 1 by omega, rfl⟩).symm
      | false => exact (decide_eq_false fun z => absurd z.2 (by decide)).symm
    · rw [decide_eq_false (by omega), Bool.false_and]
      exact (decide_eq_false fun z => h (by have : i + 2 ≤ n + 1 := z.1; omega)).symm
  · have h2 : j < i + 2 := h2
    have ej : j = i + 1 := by omega
    subst ej
    show (decide (((i + 1 : Nat) : Int) < n) && mov x ((i + 1 : Nat) : Int)) = false
    have h0 : (decide (((i : Nat) : Int) < n) && mov x i) = true := h0
    rw [Bool.and_eq_true] at h0
    have h3 := h0.2
    unfold mov at h3 ⊢
    rw [show ((i + 1 : Nat) : Int) = (i : Int) + 1 by omega]
    cases u : x ((i : Int) + 1) with
    | true =>
      rw [u] at h3
      cases v : x (i : Nat) <;> rw [v] at h3 <;> exact absurd h3 (by decide)
    | false => rw [Bool.false_and, Bool.and_false]
/-! ### stripped -/
theorem tw_all {p : Nat → Bool} : ∀ {l : List Nat}, (∀ c, c ∈ l → p c = true) → l.takeWhile p = l
  | [], _ => rfl
  | c :: r, h => by
    rw [List.takeWhile_cons, if_pos (h c (List.mem_cons_self ..)), tw_all fun d hd => h d (List.mem_cons_of_mem _ hd)]
theorem tx_strip (hn : 0 < n) : Txt.stripChars (tx n x) ("c." : Str) = ("" : Str) := by
  rw [cd_str]
  have hall : ∀ c, c ∈ (tx n x).cps.toList → (#[99, 46] : Array Nat).contains c = true := fun c hc => by
    rw [tx_list] at hc
    obtain ⟨i, _, e⟩ := List.mem_map.mp hc
    rw [← e]
    cases x (i : Nat) <;> decide +kernel
  have elo : stripLo (#[99, 46] : Array Nat).contains true (tx n x) = n := by
    unfold stripLo
    rw [if_pos rfl, tw_all hall, tx_list, List.length_map, List.length_range]
  have ehi : stripHi (#[99, 46] : Array Nat).contains true (tx n x) n = n := by
    unfold stripHi
    rw [if_pos rfl, List.drop_eq_nil_of_le (by rw [tx_list, List.length_map, List.length_range]; exact Nat.le_refl _), tx_len]
    rfl
  unfold Txt.stripChars Txt.stripBy stripSame
  show (if (stripLo (#[99, 46] : Array Nat).contains true (tx n x) == 0 && _) = true then _ else stripped (#[99, 46] : Array Nat).contains true true (tx n x)) = _
  rw [elo, show (n == 0) = false from beq_eq_false_iff_ne.mpr (by omega), Bool.false_and, if_neg (by decide)]
  unfold stripped
  rw [elo, ehi]
  have e : (tx n x).cps.extract n n = #[] := by
    refine Array.ext_getElem? fun j => ?_
    rw [Array.getElem?_extract, if_neg (by omega)]
    rfl
  show (⟨(tx n x).cps.extract n n⟩ : Str) = _
  rw [e]
  decide +kernel
theorem tx_nil (hn : 0 < n) : decide (V.str (tx n x) = V.str ("" : Str)) = false := decide_eq_false fun h => by
  have e := V.str.inj h
  have e2 : (tx n x).cps.size = 0 := by rw [e]; decide +kernel
  rw [tx_size] at e2
  omega
end
end JR

namespace JR
open PySem PySem.Spec PyProof.Rows L2
section
variable {P : Program} {w : World} {K : PySem.W.Frag} {mg : Str → Option Value} {base : Heap}

/-! ### walks of lists of whole numbers -/
theorem walk_iL {a : Addr} {n : Nat} {c : Nat → Int} : Walk (Itl K a) n (fun H => SqL K H a (iL n c)) (fun i H x H' => H' = H ∧ x = .int (c i)) := by
  have w := (walk_list (K := K) (a := a) (xs := iL n c)).mono (G' := fun H => SqL K H a (iL n c)) (Y' := fun i H x H' => H' = H ∧ x = .int (c i)) (fun H h => h) (fun i H x H' hi _ y => ⟨y.1, (iL_lt y.2).2⟩)
  rw [iL_len] at w
  exact w
theorem walk_enumI {a : Addr} {n : Nat} {c : Nat → Int} : Walk (Ite K a) n (fun H => SqL K H a (iL n c)) (fun i H v H' => ∃ T, v = .ref T ∧ H T = none ∧ H' = upd H T (.tup [.int (i : Nat), .int (c i)])) := by
  have w := (walk_enum (K := K) (a := a) (xs := iL n c)).mono (G' := fun H => SqL K H a (iL n c)) (Y' := fun i H v H' => ∃ T, v = .ref T ∧ H T = none ∧ H' = upd H T (.tup [.int (i : Nat), .int (c i)])) (fun H h => h)
    (fun i H x H' hi _ y => by
      obtain ⟨T, x1, x2, h1, h2, h3, h4, h5⟩ := y
      cases h4
      obtain ⟨_, rfl⟩ := iL_lt h5
      exact ⟨T, h1, h2, h3⟩)
  rw [iL_len] at w
  exact w
/-- lists of truth values by their items -/
def bls (n : Nat) (b : Nat → Bool) : List Bool := (List.range n).map b
theorem bls_V (n : Nat) (b : Nat → Bool) : (bls n b).map V.bl = (List.range n).map fun i => V.bl (b i) := by
  unfold bls
  rw [List.map_map]
  rfl
theorem bls_all {n : Nat} {b : Nat → Bool} (h : ∀ i, i < n → b i = true) : (bls n b).all id = true := by
  refine List.all_eq_true.mpr fun x hx => ?_
  obtain ⟨i, hi, e⟩ := List.mem_map.mp hx
  rw [← e]
  exact h i (List.mem_range.mp hi)
theorem bls_any {n : Nat} {b : Nat → Bool} (h : ∀ i, i < n → b i = false) : (bls n b).any id = false := by
  cases q : (bls n b).any id with
  | false => rfl
  | true =>
    obtain ⟨x, hx, e⟩ := List.any_eq_true.mp q
    obtain ⟨i, hi, e2⟩ := List.mem_map.mp hx
    rw [← e2] at e
    have := h i (List.mem_range.mp hi)
    rw [show id (b i) = b i from rfl, this] at e
    cases e

/-! ### is_number -/
abbrev s_is_number : Stmt := topS 8
theorem sc_is_number : FnScope ["thing"] ["thing"] (defScope s_is_number) := ⟨rfl, rfl, rfl, by decide +kernel, rfl, by decide +kernel, by decide +kernel⟩
def numT : List String := ["int", "bool", "NoneType", "str", "list", "tuple"]
theorem kit_int {T : String} (h : T ∈ numT) : PySem.W.kitOne K (.type T) (.type "int") = some (decide (T = "int") || decide (T = "bool")) := by
  simp only [numT, List.mem_cons, List.not_mem_nil, or_false] at h
  rcases h with h | h | h | h | h | h <;> (subst h; exact kit_ty (by decide +kernel))
theorem kit_bool {T : String} (h : T ∈ numT) : PySem.W.kitOne K (.type T) (.type "bool") = some (decide (T = "bool")) := by
  simp only [numT, List.mem_cons, List.not_mem_nil, or_false] at h
  rcases h with h | h | h | h | h | h <;> (subst h; exact kit_ty (by decide +kernel))
def spIsNumber (K : PySem.W.Frag) : Sp := fun vs H Q _ => ∃ (x : V) (T : String), vs = [x] ∧ TyX K H x (.type T) ∧ T ∈ numT ∧ Q (.bl (decide (T = "int"))) H
theorem cal_is_number {f : Addr} {fd : FuncData} (F : Fun K "is_number" "is_number" s_is_number f fd) (g : mg "is_number" = some (.ref f)) (B : Blt mg) : Cal P w K mg base 1 "is_number" (spIsNumber K) := by
  refine ⟨f, fd, ["thing"], F.ok sc_is_number (fun vs H Q E h => ?_) (fun cdv A outer s H vs Q E hr h => ?_), g, F.kp, F.binds fun _ _ _ _ _ _ us hl => match us, hl with | [_], _ => rfl⟩
  · obtain ⟨x, T, rfl, _⟩ := h
    rfl
  · obtain ⟨x, T, rfl, hx, hT, q⟩ := h
    refine ⟨_, (pss_one (ps_ret (pe_and (pe_callB (isiK K) (by rfl) B.isinstance bt_isinstance (pa_cons (pv 0) (pa_cons (pe_ty (by rfl) B.int bt_int) pa_nil))) (pe_one (pe_not (pe_callB (isiK K) (by rfl) B.isinstance bt_isinstance (pa_cons (pv 0) (pa_cons (pe_ty (by rfl) B.bool bt_bool) pa_nil)))))))), ?_⟩
    refine ⟨x, rfl, x, .ty "int", .type T, .type "int", _, rfl, .ty _, hx, kit_int hT, _, rfl, ?_⟩
    refine ite2 (fun e => ?_) (fun e => ?_)
    · refine ⟨x, rfl, x, .ty "bool", .type T, .type "bool", _, rfl, .ty _, hx, kit_bool hT, _, rfl, ?_⟩
      show Q (.bl (!decide (T = "bool"))) H
      have e2 : (!decide (T = "bool")) = decide (T = "int") := by
        simp only [numT, List.mem_cons, List.not_mem_nil, or_false] at hT
        rcases hT with h | h | h | h | h | h <;> (subst h; first | decide | exact absurd e (by decide))
      rw [e2]
      exact q
    · have e2 : decide (T = "int") = false := by
        simp only [numT, List.mem_cons, List.not_mem_nil, or_false] at hT
        rcases hT with h | h | h | h | h | h <;> (subst h; first | decide | exact absurd (by decide) e)
      rw [e2] at q
      exact q
theorem num_int {H : Hp} {Q : VK} {E : XK} (i : Int) (q : Q (.bl true) H) : spIsNumber K [.int i] H Q E := ⟨.int i, "int", rfl, .base (.int i), by decide, q⟩

/-! ### asked_cars, what are cars -/
abbrev s_asked_cars : Stmt := topS 9
theorem sc_asked_cars : FnScope ["cars", "car", "at"] ["cars"] (defScope s_asked_cars) := ⟨rfl, rfl, rfl, by decide +kernel, rfl, by decide +kernel, by decide +kernel⟩
def spAskedCars (K : PySem.W.Frag) : Sp := fun vs H Q _ => ∃ (a : Addr) (n : Nat) (c : Nat → Int), vs = [.ref a] ∧ SqL K H a (iL n c) ∧ Rising n c ∧ n ≤ 1000 ∧ ∀ H', Same H H' → Q .non H'
theorem cal_asked_cars {f : Addr} {fd : FuncData} (F : Fun K "asked_cars" "asked_cars" s_asked_cars f fd) (g : mg "asked_cars" = some (.ref f)) (B : Blt mg) (c_is_number : Cal P w K mg base 1 "is_number" (spIsNumber K)) : Cal P w K mg base 2 "asked_cars" (spAskedCars K) := by
  refine ⟨f, fd, ["cars"], F.ok sc_asked_cars (fun vs H Q E h => ?_) (fun cdv A outer s H vs Q E hr h => ?_), g, F.kp, F.binds fun _ _ _ _ _ _ us hl => match us, hl with | [_], _ => rfl⟩
  · obtain ⟨a, n, c, rfl, _⟩ := h
    rfl
  · obtain ⟨a, n, c, rfl, hS, hR, hn, q⟩ := h
    refine ⟨_, (pss_cons (ps_if (PW.pt (pw_or (pt_not (pt_val (pe_callB (isiK K) (by rfl) B.isinstance bt_isinstance (pa_cons (pv 0) (pa_cons (pe_ty (by rfl) B.list bt_list) pa_nil))))) (pw_or1 (pt_not (pt_val (pe_callB (allK K rfl) (by rfl) B.all bt_all (pa_cons (pe_lc (own := [("car", 1)]) (g := gName 1) (tt := tYes) rfl sc_asked_cars.nd (pi_list (pv 0)) (blkOk_by (own := [("car", 1)]) (N := ["cars", "car", "at"]) (sc := defScope s_asked_cars) (by decide +kernel)) (fun _ _ _ _ _ => (pg_name (i := 1) sc_asked_cars.nd rfl (Or.inl rfl))) (fun _ _ _ _ _ => pts_nil) (fun _ _ _ _ _ => (pe_c c_is_number hr (by decide) (by rfl) (pa_cons (pv 1) pa_nil)))) pa_nil))))))) pss_never pss_nil) (pss_one (ps_if (pt_val (pe_callB (anyK K rfl) (by rfl) B.any bt_any (pa_cons (pe_lc (own := [("at", 2)]) (g := gName 2) (tt := tYes) rfl sc_asked_cars.nd (pi_range1 rfl B.range (pa_cons (pe_op op_sub (pe_callB (lenK K) (by rfl) B.len bt_len (pa_cons (pv 0) pa_nil)) pe_int) pa_nil)) (blkOk_by (own := [("at", 2)]) (N := ["cars", "car", "at"]) (sc := defScope s_asked_cars) (by decide +kernel)) (fun _ _ _ _ _ => (pg_name (i := 2) sc_asked_cars.nd rfl (Or.inl rfl))) (fun _ _ _ _ _ => pts_nil) (fun _ _ _ _ _ => (pe_cmpR op_ge (pe_ix (ixlK K) (pv 0) (pv 2) (fun _ _ => rfl)) (pe_ix (ixlK K) (pv 0) (pe_op op_add (pv 2) pe_int) (fun _ _ => rfl)) rfl))) pa_nil))) pss_never pss_nil))), ?_⟩
    -- not isinstance(cars, list)
    refine ⟨.ref a, rfl, .ref a, .ty "list", .type "list", .type "list", true, rfl, .ty _, ty_list hS, kit_ty (by decide +kernel), true, rfl, iteF ?_⟩
    -- not all([is_number(car) for car in cars])
    refine ⟨.ref a, rfl, a, rfl, ⟨_, hS⟩, fun D hD => lc_fun (walk_iL (n := n) (c := c)) (fun _ => V.bl true) (by omega) hD (fun H s => s.seq hS) (fun i x H1 H2 hi s y Q' R' q' => ?_) (fun H1 s1 e1 => ?_)⟩
    · obtain ⟨rfl, rfl⟩ := y
      exact ⟨rfl, _, rfl, .int (c i), "int", rfl, .base (.int (c i)), by decide, q' _ (Same.refl _)⟩
    · refine ⟨D, bls n fun _ => true, rfl, SqL.of (by rw [e1, bls_V]), _, rfl, ?_⟩
      rw [bls_all fun _ _ => rfl]
      refine iteF ?_
      -- any([cars[at] >= cars[at + 1] ..])
      have hS1 := s1.seq hS
      refine ⟨.ref a, rfl, a, iL n c, rfl, .inl hS1, _, _, rfl, rfl, (n : Int) - 1, by rw [iL_len], by omega, by omega, fun D2 hD2 => lc_fun walk_range (fun i => V.bl (decide (c (i + 1) ≤ c i))) (by omega) hD2 (fun _ _ => trivial) (fun i x H2 H3 hi s y Q' R' q' => ?_) (fun H2 s2 e2 => ?_)⟩
      · obtain ⟨rfl, rfl⟩ := y
        have hS2 := s.seq hS1
        have h1 : i + 1 < n := by omega
        exact ⟨rfl, _, rfl, _, rfl, _, _, _, _, rfl, rfl, hS2, iL_at (i := i) (by omega) (by omega), _, rfl, _, rfl, _, _, rfl, rfl, _, _, _, _, rfl, rfl, hS2, iL_at (i := i + 1) (by omega) h1, _, _, rfl, rfl, q' _ (Same.refl _)⟩
      · refine ⟨D2, bls ((n : Int) - 1).toNat fun i => decide (c (i + 1) ≤ c i), rfl, SqL.of (by rw [e2, bls_V]), _, rfl, ?_⟩
        rw [bls_any fun i hi => decide_eq_false (by have := hR i (by omega); omega)]
        exact iteF (q _ (s1.trans s2))

/-! ### asked_steps, a count of steps -/
abbrev s_asked_steps : Stmt := topS 10
theorem sc_asked_steps : FnScope ["steps"] ["steps"] (defScope s_asked_steps) := ⟨rfl, rfl, rfl, by decide +kernel, rfl, by decide +kernel, by decide +kernel⟩
def spAskedSteps : Sp := fun vs H Q _ => ∃ t : Int, vs = [.int t] ∧ 0 ≤ t ∧ Q .non H
theorem cal_asked_steps {f : Addr} {fd : FuncData} (F : Fun K "asked_steps" "asked_steps" s_asked_steps f fd) (g : mg "asked_steps" = some (.ref f)) (B : Blt mg) (c_is_number : Cal P w K mg base 1 "is_number" (spIsNumber K)) : Cal P w K mg base 2 "asked_steps" spAskedSteps := by
  refine ⟨f, fd, ["steps"], F.ok sc_asked_steps (fun vs H Q E h => ?_) (fun cdv A outer s H vs Q E hr h => ?_), g, F.kp, F.binds fun _ _ _ _ _ _ us hl => match us, hl with | [_], _ => rfl⟩
  · obtain ⟨t, rfl, _⟩ := h
    rfl
  · obtain ⟨t, rfl, ht, q⟩ := h
    refine ⟨_, (pss_one (ps_if (PW.pt (pw_or (pt_not (pt_val (pe_c c_is_number hr (by decide) (by rfl) (pa_cons (pv 0) pa_nil)))) (pw_or1 (pt_cmpR op_lt (pv 0) pe_int rfl)))) pss_never pss_nil)), ?_⟩
    refine ⟨_, rfl, .int t, "int", rfl, .base (.int t), by decide, _, rfl, iteF ⟨_, rfl, _, _, rfl, rfl, _, rfl, ?_⟩⟩
    rw [decide_eq_false (show ¬ t < 0 by omega)]
    exact iteF q

/-! ### stepped -/
abbrev s_stepped : Stmt := topS 12
theorem sc_stepped : FnScope ["cars", "found", "at", "car"] ["cars"] (defScope s_stepped) := ⟨rfl, rfl, rfl, by decide +kernel, rfl, by decide +kernel, by decide +kernel⟩
def spStepped (K : PySem.W.Frag) : Sp := fun vs H Q _ => ∃ (a : Addr) (n : Nat) (c : Nat → Int), vs = [.ref a] ∧ SqL K H a (iL n c) ∧ Rising n c ∧ n ≤ 1000 ∧ ∀ H' p, Same H H' → H p = none → H' p = some (.lst (iL n (stepF n c))) → Q (.ref p) H'
theorem cal_stepped {f : Addr} {fd : FuncData} (F : Fun K "stepped" "stepped" s_stepped f fd) (g : mg "stepped" = some (.ref f)) (B : Blt mg) (c_asked_cars : Cal P w K mg base 2 "asked_cars" (spAskedCars K)) : Cal P w K mg base 3 "stepped" (spStepped K) := by
  refine ⟨f, fd, ["cars"], F.ok sc_stepped (fun vs H Q E h => ?_) (fun cdv A outer s H vs Q E hr h => ?_), g, F.kp, F.binds fun _ _ _ _ _ _ us hl => match us, hl with | [_], _ => rfl⟩
  · obtain ⟨a, n, c, rfl, _⟩ := h
    rfl
  · obtain ⟨a, n, c, rfl, hS, hR, hn, q⟩ := h
    refine ⟨_, (pss_cons (ps_expr (pe_c c_asked_cars hr (by decide) (by rfl) (pa_cons (pv 0) pa_nil))) (pss_cons (ps_set (i := 1) sc_stepped.nd rfl (Or.inl rfl) (pe_lst pa_nil)) (pss_cons (ps_for PassesOwn.never rfl (pi_enum rfl B.enumerate (pa_cons (pv 0) pa_nil)) (pg_tup rfl (pgs_cons (pg_name (i := 2) sc_stepped.nd rfl (Or.inl rfl)) (pgs_cons (pg_name (i := 3) sc_stepped.nd rfl (Or.inl rfl)) pgs_nil))) (pss_one (ps_if (PW.pt (pw_and (pt_cmpR op_lt (pe_op op_add (pv 2) pe_int) (pe_callB (lenK K) (by rfl) B.len bt_len (pa_cons (pv 0) pa_nil)) rfl) (pw_and1 (pt_cmpR op_eq (pe_ix (ixlK K) (pv 0) (pe_op op_add (pv 2) pe_int) (fun _ _ => rfl)) (pe_op op_add (pv 3) pe_int) rfl)))) (pss_one (ps_expr (pe_bm PySem.F.plainAttrs_list PySem.F.slot_list_append PySem.F.type_list_append mt_append (pv 1) (pa_cons (pv 3) pa_nil)))) (pss_one (ps_expr (pe_bm PySem.F.plainAttrs_list PySem.F.slot_list_append PySem.F.type_list_append mt_append (pv 1) (pa_cons (pe_op op_add (pv 3) pe_int) pa_nil))))))) (pss_one (ps_ret (pv 1)))))), ?_⟩
    refine ⟨_, rfl, a, n, c, rfl, hS, hR, hn, fun H1 s1 => ?_⟩
    refine ⟨Nat.zero_le _, fun o no => ?_⟩
    have s2 := s1.trans (same_new (o := .lst []) no)
    refine ⟨_, rfl, a, iL n c, rfl, s2.seq hS, for_it (walk_enumI (n := n) (c := c)) (fun i σ H' => ∃ y2 y3, σ = [some (.ref a), some (.ref o), y2, y3] ∧ Same H H' ∧ H' o = some (.lst (iL i (stepF n c)))) ⟨none, none, rfl, s2, upd_same⟩ (fun i σ H' _ p => ?_) (fun i x σ H2 H3 hi p y => ?_) (fun σ H2 p => ?_)⟩
    · obtain ⟨_, _, _, sm, _⟩ := p
      exact sm.seq hS
    · obtain ⟨y2, y3, rfl, sm, eo⟩ := p
      obtain ⟨T, rfl, nT, rfl⟩ := y
      have sT := same_new (o := .tup [.int (i : Nat), .int (c i)]) nT
      have s3 := sm.trans sT
      have hS3 := s3.seq hS
      have eo3 := sT _ _ eo
      refine ⟨T, _, rfl, SqT.of upd_same, rfl, _, _, rfl, _, _, rfl, rfl, ?_⟩
      -- at + 1 < len(cars) and cars[at + 1] == car + 1
      refine ⟨_, rfl, _, _, rfl, rfl, _, rfl, a, iL n c, rfl, .inl hS3, _, _, rfl, rfl, _, rfl, ?_⟩
      have put : ∀ z : Int, z = stepF n c i → ∃ l xs y, V.ref o = .ref l ∧ [V.int z] = [y] ∧ upd H2 T (.tup [.int (i : Nat), .int (c i)]) l = some (.lst xs) ∧ xs.length < sizeLine ∧ ∃ y2 y3, [some (V.ref a), some (.ref o), some (.int (i : Nat)), some (.int (c i))] = [some (.ref a), some (.ref o), y2, y3] ∧
          Same H (upd (upd H2 T (.tup [.int (i : Nat), .int (c i)])) l (.lst (xs ++ [y]))) ∧ upd (upd H2 T (.tup [.int (i : Nat), .int (c i)])) l (.lst (xs ++ [y])) o = some (.lst (iL (i + 1) (stepF n c))) := fun z e => by
        subst e
        refine ⟨o, _, _, rfl, rfl, eo3, ?_, _, _, rfl, same_mut s3 (s1.free no), ?_⟩
        · rw [iL_len]
          exact lt_line (by omega)
        · rw [upd_same, iL_succ]
      refine ite2 (fun e => ?_) (fun e => ?_)
      · have h1 : i + 1 < n := by
          have := of_decide_eq_true e
          rw [iL_len] at this
          omega
        refine ⟨_, rfl, _, rfl, _, _, rfl, rfl, _, _, _, _, rfl, rfl, hS3, iL_at (i := i + 1) (by omega) h1, _, rfl, _, _, rfl, rfl, rfl, _, rfl, ?_⟩
        refine ite2 (fun e2 => ?_) (fun e2 => ?_)
        · have e3 : c (i + 1) = c i + 1 := V.int.inj (of_decide_eq_true e2)
          exact ⟨_, rfl, .inl ⟨rfl, _, SqL.of eo3⟩, _, rfl, put _ (by unfold stepF; rw [if_pos ⟨h1, e3⟩])⟩
        · have e3 : ¬ c (i + 1) = c i + 1 := fun z => e2 (decide_eq_true (by rw [z]))
          exact ⟨_, rfl, .inl ⟨rfl, _, SqL.of eo3⟩, _, rfl, _, _, rfl, rfl, put _ (by unfold stepF; rw [if_neg fun z => e3 z.2])⟩
      · have h1 : ¬ i + 1 < n := fun z => e (decide_eq_true (by rw [iL_len]; omega))
        refine iteF ?_
        exact ⟨_, rfl, .inl ⟨rfl, _, SqL.of eo3⟩, _, rfl, _, _, rfl, rfl, put _ (by unfold stepF; rw [if_neg fun z => h1 z.1])⟩
    · obtain ⟨y2, y3, rfl, sm, eo⟩ := p
      exact ⟨_, rfl, q H2 o sm (s1.free no) eo⟩
end
end JR

namespace JR
open PySem PySem.Spec PyProof.Rows L2
section
variable {P : Program} {w : World} {K : PySem.W.Frag} {mg : Str → Option Value} {base : Heap}

/-! ### lists of places (natural numbers) -/
def nL (W : List Nat) : List V := W.map fun (k : Nat) => V.int (k : Int)
theorem nL_len (W : List Nat) : (nL W).length = W.length := by unfold nL; rw [List.length_map]
theorem nL_snoc (W : List Nat) (x : Nat) : nL (W ++ [x]) = nL W ++ [.int (x : Int)] := by unfold nL; rw [List.map_append]; rfl
theorem nL_int (W : List Nat) : nL W = (W.map fun (k : Nat) => (k : Int)).map V.int := by unfold nL; rw [List.map_map]; rfl
theorem nL_last (W : List Nat) (x : Nat) : atI (nL (W ++ [x])) (-1) = some (.int (x : Int)) := by rw [nL_snoc]; exact atI_last _ _
theorem nL_first (W : List Nat) (f : Nat) : atI (nL (f :: W)) 0 = some (.int (f : Int)) := by
  show atI (.int (f : Int) :: nL W) ((0 : Nat) : Int) = _
  exact atI_nat rfl
theorem seq0 (f : Nat) (W : List Nat) : seqIndex? 0 (nL (f :: W)).length = some 0 := by
  rw [nL_len]
  unfold seqIndex?
  simp
theorem iL_rev (n : Nat) (c : Nat → Int) : (iL n c).reverse = iL n fun i => c (n - 1 - i) := by
  refine List.ext_getElem? fun i => ?_
  by_cases h : i < n
  · rw [List.getElem?_reverse (by rw [iL_len]; exact h), iL_len, iL_get (by omega), iL_get h]
  · rw [List.getElem?_eq_none (by rw [List.length_reverse, iL_len]; omega), List.getElem?_eq_none (by rw [iL_len]; omega)]

/-! ### leans -/
abbrev s_leans : Stmt := topS 13
theorem sc_leans : FnScope ["cars", "at", "car"] ["cars"] (defScope s_leans) := ⟨rfl, rfl, rfl, by decide +kernel, rfl, by decide +kernel, by decide +kernel⟩
def spLeans (K : PySem.W.Frag) : Sp := fun vs H Q _ => ∃ (a : Addr) (n : Nat) (c : Nat → Int), vs = [.ref a] ∧ SqL K H a (iL n c) ∧ n ≤ 1000 ∧ ∀ H' p, Same H H' → H p = none → H' p = some (.lst (iL n (lean c))) → Q (.ref p) H'
theorem cal_leans {f : Addr} {fd : FuncData} (F : Fun K "leans" "leans" s_leans f fd) (g : mg "leans" = some (.ref f)) (B : Blt mg) : Cal P w K mg base 1 "leans" (spLeans K) := by
  refine ⟨f, fd, ["cars"], F.ok sc_leans (fun vs H Q E h => ?_) (fun cdv A outer s H vs Q E hr h => ?_), g, F.kp, F.binds fun _ _ _ _ _ _ us hl => match us, hl with | [_], _ => rfl⟩
  · obtain ⟨a, n, c, rfl, _⟩ := h
    rfl
  · obtain ⟨a, n, c, rfl, hS, hn, q⟩ := h
    refine ⟨_, (pss_one (ps_ret (pe_lc (own := [("at", 1), ("car", 2)]) (g := gTup K 2 (gCons (gName 1) (gCons (gName 2) gNil))) (tt := tYes) rfl sc_leans.nd (pi_enum rfl B.enumerate (pa_cons (pv 0) pa_nil)) (blkOk_by (own := [("at", 1), ("car", 2)]) (N := ["cars", "at", "car"]) (sc := defScope s_leans) (by decide +kernel)) (fun _ _ _ _ _ => (pg_tup (n := 2) rfl (pgs_cons (pg_name (i := 1) sc_leans.nd rfl (Or.inl rfl)) (pgs_cons (pg_name (i := 2) sc_leans.nd rfl (Or.inl rfl)) pgs_nil)))) (fun _ _ _ _ _ => pts_nil) (fun _ _ _ _ _ => (pe_op op_sub (pv 2) (pe_op op_mul pe_int (pv 1))))))), ?_⟩
    refine ⟨_, rfl, a, iL n c, rfl, hS, fun D hD => lc_fun (walk_enumI (n := n) (c := c)) (fun i => V.int (lean c i)) (by omega) hD (fun H s => s.seq hS) (fun i x H1 H2 hi s y Q' R' q' => ?_) (fun H1 s1 e1 => q H1 D s1 hD e1)⟩
    obtain ⟨T, rfl, nT, rfl⟩ := y
    refine ⟨T, _, rfl, SqT.of upd_same, rfl, _, _, rfl, _, _, rfl, rfl, rfl, ?_⟩
    exact ⟨_, rfl, _, rfl, _, _, rfl, rfl, .inl ⟨by decide, by decide⟩, _, _, rfl, rfl, q' _ (same_new nT)⟩

/-! ### holders -/
abbrev s_holders : Stmt := topS 14
theorem sc_holders : FnScope ["cars", "steps", "told", "waiting", "found", "at"] ["cars", "steps"] (defScope s_holders) := ⟨rfl, rfl, rfl, by decide +kernel, rfl, by decide +kernel, by decide +kernel⟩
def spHolders (K : PySem.W.Frag) : Sp := fun vs H Q _ => ∃ (a : Addr) (n : Nat) (c : Nat → Int) (t : Nat), vs = [.ref a, .int (t : Int)] ∧ SqL K H a (iL n c) ∧ n ≤ 1000 ∧
  ∀ H' p (b : Nat → Nat), Same H H' → H p = none → H' p = some (.lst (iL n fun i => (b i : Int))) → (∀ i, i < n → Hld n (lean c) t i (b i)) → Q (.ref p) H'
theorem cal_holders {f : Addr} {fd : FuncData} (F : Fun K "holders" "holders" s_holders f fd) (g : mg "holders" = some (.ref f)) (B : Blt mg) (c_leans : Cal P w K mg base 1 "leans" (spLeans K)) : Cal P w K mg base 2 "holders" (spHolders K) := by
  refine ⟨f, fd, ["cars", "steps"], F.ok sc_holders (fun vs H Q E h => ?_) (fun cdv A outer s H vs Q E hr h => ?_), g, F.kp, F.binds fun _ _ _ _ _ _ us hl => match us, hl with | [_, _], _ => rfl⟩
  · obtain ⟨a, n, c, t, rfl, _⟩ := h
    rfl
  · obtain ⟨a, n, c, t, rfl, hS, hn, q⟩ := h
    refine ⟨_, (pss_cons (ps_set (i := 2) sc_holders.nd rfl (Or.inl rfl) (pe_c c_leans hr (by decide) (by rfl) (pa_cons (pv 0) pa_nil))) (pss_cons (ps_set (i := 3) sc_holders.nd rfl (Or.inl rfl) (pe_lst pa_nil)) (pss_cons (ps_set (i := 4) sc_holders.nd rfl (Or.inl rfl) (pe_lst pa_nil)) (pss_cons (ps_for PassesOwn.never rfl (pi_revR rfl B.reversed (prg_1 rfl B.range (pe_callB (lenK K) (by rfl) B.len bt_len (pa_cons (pv 0) pa_nil)))) (pg_name (i := 5) sc_holders.nd rfl (Or.inl rfl)) (pss_cons (ps_while PassesOwn.never (PW.pt (pw_and (pt_cmpR (neK K hr.units) (pv 3) (pe_lst pa_nil) rfl) (pw_and1 (pt_cmpR op_ge (pe_ix (ixlK K) (pv 2) (pe_ix (ixlK K) (pv 3) (pe_un un_neg pe_int) (fun _ _ => rfl)) (fun _ _ => rfl)) (pe_ix (ixlK K) (pv 2) (pv 5) (fun _ _ => rfl)) rfl)))) (pss_one (ps_expr (pe_bm0 PySem.F.plainAttrs_list PySem.F.slot_list_pop PySem.F.type_list_pop mt_pop (pv 3))))) (pss_cons (ps_expr (pe_bm PySem.F.plainAttrs_list PySem.F.slot_list_append PySem.F.type_list_append mt_append (pv 3) (pa_cons (pv 5) pa_nil))) (pss_cons (ps_while PassesOwn.never (pt_cmpR op_gt (pe_ix (ixlK K) (pv 3) pe_int (fun _ _ => rfl)) (pe_op op_add (pv 5) (pv 1)) rfl) (pss_one (ps_expr (pe_bm PySem.F.plainAttrs_list PySem.F.slot_list_pop PySem.F.type_list_pop mt_popAt (pv 3) (pa_cons pe_int pa_nil))))) (pss_one (ps_expr (pe_bm PySem.F.plainAttrs_list PySem.F.slot_list_append PySem.F.type_list_append mt_append (pv 4) (pa_cons (pe_ix (ixlK K) (pv 3) pe_int (fun _ _ => rfl)) pa_nil)))))))) (pss_one (ps_ret (pe_revL (pv 4)))))))), ?_⟩
    -- told = leans(cars); waiting = []; found = []
    refine ⟨_, rfl, a, n, c, rfl, hS, hn, fun H1 p s1 np ep => ?_⟩
    refine ⟨Nat.zero_le _, fun wt nw => ?_⟩
    refine ⟨Nat.zero_le _, fun fo nf => ?_⟩
    have sw := same_new (o := .lst []) nw
    have sf := same_new (o := .lst []) nf
    have hp0 : upd (upd H1 wt (.lst [])) fo (.lst []) p = some (.lst (iL n (lean c))) := sf _ _ (sw _ _ ep)
    have hw0 : upd (upd H1 wt (.lst [])) fo (.lst []) wt = some (.lst []) := sf _ _ upd_same
    have nfw : fo ≠ wt := (ne_of_none upd_same nf).symm
    have npw : p ≠ wt := ne_of_none ep nw
    have npf : p ≠ fo := ne_of_none (sw _ _ ep) nf
    have s3 := s1.trans (sw.trans sf)
    have Hw : H wt = none := s1.free nw
    have Hf : H fo = none := s1.free (sw.free nf)
    -- what holds of the heap
    let G : Hp → List Nat → Nat → (Nat → Nat) → Prop := fun H' W i b => Same H H' ∧ H' p = some (.lst (iL n (lean c))) ∧ H' wt = some (.lst (nL W)) ∧ H' fo = some (.lst (iL i fun k => (b k : Int)))
    have gW : ∀ {H' : Hp} {W W' : List Nat} {i : Nat} {b : Nat → Nat}, G H' W i b → G (upd H' wt (.lst (nL W'))) W' i b := fun g => ⟨same_mut g.1 Hw, by rw [upd_ne npw]; exact g.2.1, upd_same, by rw [upd_ne nfw]; exact g.2.2.2⟩
    have gS : ∀ {H' H'' : Hp} {W : List Nat} {i : Nat} {b : Nat → Nat}, G H' W i b → Same H' H'' → G H'' W i b := fun g s => ⟨g.1.trans s, s _ _ g.2.1, s _ _ g.2.2.1, s _ _ g.2.2.2⟩
    -- for at in reversed(range(len(cars)))
    refine ⟨_, rfl, a, iL n c, rfl, .inl (s3.seq hS), (n : Int), by rw [iL_len], by omega, by omega, by omega, by omega,
      for_it (walk_rangeC (n := ((n : Int) - 0).toNat)) (fun i σ H' => i ≤ n ∧ ∃ y5 W b, σ = [some (.ref a), some (.int (t : Int)), some (.ref p), some (.ref wt), some (.ref fo), y5] ∧ G H' W i b ∧ Wb n (lean c) t (n - i) W ∧ ∀ k, k < i → Hld n (lean c) t (n - 1 - k) (b k))
        ⟨Nat.zero_le _, none, [], fun _ => 0, rfl, ⟨s3, hp0, hw0, upd_same⟩, Wb.none, fun k hk => absurd hk (Nat.not_lt_zero k)⟩ (fun _ _ _ _ _ => trivial) (fun i x σ H2 H3 hi pv y => ?_) (fun σ H2 pv => ?_)⟩
    · obtain ⟨_, y5, W, b, rfl, hG, hW, hB⟩ := pv
      obtain ⟨rfl, ex⟩ := y
      have hin : i < n := by omega
      obtain ⟨m, hm⟩ : ∃ m, m = n - 1 - i := ⟨_, rfl⟩
      have em : (0 : Int) + ((((n : Int) - 0).toNat : Nat) : Int) - 1 + ((i : Nat) : Int) * (-1) = (m : Int) := by omega
      have ex : x = .int (m : Int) := by
        rw [ex]
        show V.int (0 + ((((n : Int) - 0).toNat : Nat) : Int) - 1 + ((i : Nat) : Int) * (-1)) = _
        rw [em]
      subst ex
      have hmn : m < n := by omega
      have hA : Wa n (lean c) t m W := by
        rw [show n - i = m + 1 by omega] at hW
        exact hW.next
      -- while waiting != [] and told[waiting[-1]] >= told[at]
      refine ⟨fun z σ' H' => ∃ W, z = W.length ∧ σ' = [some (.ref a), some (.int (t : Int)), some (.ref p), some (.ref wt), some (.ref fo), some (.int (m : Int))] ∧ G H' W i b ∧ Wa n (lean c) t m W, ⟨_, W, rfl, rfl, hG, hA⟩, fun z σ' H' hz => ?_⟩
      obtain ⟨W, rfl, rfl, hG, hA⟩ := hz
      refine ⟨_, rfl, Nat.zero_le _, fun e ne => ?_⟩
      have hGe := gS hG (same_new (o := .lst []) ne)
      refine ne_lists (xs := W.map fun (k : Nat) => (k : Int)) (ys := []) (SqL.of (by rw [← nL_int]; exact hGe.2.2.1)) (SqL.of upd_same) ⟨_, rfl, ?_⟩
      -- behind the first while
      have rest : ∀ (H' : Hp) (W : List Nat), G H' W i b → Wa n (lean c) t m W → (∀ W0 x, W = W0 ++ [x] → lean c x < lean c m) →
          (tSeq (tDrop (tBM K "list" rAppend (tVar 3) (tCons (tVar 5) tNil))) (tSeq (tWhile (tTest (tOp (rI0 fun i j => .bl (decide (j < i))) (tOp (rIxL K) (tVar 3) (tC (.int 0))) (tOp (rI0 fun i j => .int (i + j)) (tVar 5) (tVar 1)))) (tDrop (tBM K "list" rPopAt (tVar 3) (tCons (tC (.int 0)) tNil))))
            (tDrop (tBM K "list" rAppend (tVar 4) (tCons (tOp (rIxL K) (tVar 3) (tC (.int 0))) tNil))))) { nx := fun σ' H' => i + 1 ≤ n ∧ ∃ y5 W b, σ' = [some (.ref a), some (.int (t : Int)), some (.ref p), some (.ref wt), some (.ref fo), y5] ∧ G H' W (i + 1) b ∧ Wb n (lean c) t (n - (i + 1)) W ∧ ∀ k, k < i + 1 → Hld n (lean c) t (n - 1 - k) (b k), rt := Q } [some (.ref a), some (.int (t : Int)), some (.ref p), some (.ref wt), some (.ref fo), some (.int (m : Int))] H' := by
        intro H' W hG hA hl
        have hlen : W.length ≤ 1000 := by
          have := hA.ord.len fun k hk => (hA.inr k hk).2
          omega
        have hB2 := hA.put hmn hl
        -- waiting.append(at)
        refine ⟨_, rfl, .inl ⟨rfl, _, SqL.of hG.2.2.1⟩, _, rfl, wt, _, _, rfl, rfl, hG.2.2.1, by rw [nL_len]; exact lt_line (by omega), ?_⟩
        have hG2 := gW (W' := W ++ [m]) hG
        rw [nL_snoc] at hG2
        -- while waiting[0] > at + steps
        refine ⟨fun z σ' H' => ∃ W, z = W.length ∧ σ' = [some (.ref a), some (.int (t : Int)), some (.ref p), some (.ref wt), some (.ref fo), some (.int (m : Int))] ∧ G H' W i b ∧ Wb n (lean c) t m W, ⟨_, W ++ [m], rfl, rfl, hG2, hB2⟩, fun z σ' H' hz => ?_⟩
        obtain ⟨W, rfl, rfl, hG, hB2⟩ := hz
        obtain ⟨f0, W, rfl⟩ := List.exists_cons_of_ne_nil (hB2.ne hmn)
        refine ⟨_, rfl, _, _, _, _, rfl, rfl, SqL.of hG.2.2.1, nL_first _ _, _, rfl, _, rfl, _, _, rfl, rfl, _, _, rfl, rfl, _, rfl, ?_⟩
        refine ite2 (fun e => ?_) (fun e => ?_)
        · have e' : m + t < f0 := by
            have := of_decide_eq_true e
            omega
          refine ⟨fun σ' H' => ∃ W', W'.length < (f0 :: W).length ∧ σ' = [some (.ref a), some (.int (t : Int)), some (.ref p), some (.ref wt), some (.ref fo), some (.int (m : Int))] ∧ G H' W' i b ∧ Wb n (lean c) t m W', fun σ' H' h => by
            obtain ⟨W', h1, h2⟩ := h
            exact ⟨W'.length, h1, W', rfl, h2⟩, ?_⟩
          refine ⟨_, rfl, .inl ⟨rfl, _, SqL.of hG.2.2.1⟩, wt, _, _, 0, _, rfl, rfl, hG.2.2.1, by decide, by decide, seq0 _ _, rfl, W, Nat.lt_succ_self _, rfl, gW (W' := W) hG, hB2.drop e'⟩
        · have e' : f0 ≤ m + t := by
            have : ¬ ((m : Int) + t < f0) := fun z => e (decide_eq_true z)
            omega
          -- found.append(waiting[0])
          refine ⟨_, rfl, .inl ⟨rfl, _, SqL.of hG.2.2.2⟩, _, rfl, _, _, _, _, rfl, rfl, SqL.of hG.2.2.1, nL_first _ _, fo, _, _, rfl, rfl, hG.2.2.2, by rw [iL_len]; exact lt_line (by omega), ?_⟩
          refine ⟨hin, _, f0 :: W, fun k => if k = i then f0 else b k, rfl, ⟨same_mut hG.1 Hf, by rw [upd_ne npf]; exact hG.2.1, by rw [upd_ne nfw.symm]; exact hG.2.2.1, ?_⟩, ?_, fun k hk => ?_⟩
          · have e1 : ((if i = i then f0 else b i : Nat) : Int) = (f0 : Int) := by rw [if_pos rfl]
            rw [upd_same, iL_succ]
            show _ = some (HO.lst (iL i (fun k => ((if k = i then f0 else b k : Nat) : Int)) ++ [V.int ((if i = i then f0 else b i : Nat) : Int)]))
            rw [e1]
            have ec : iL i (fun k => (b k : Int)) = iL i fun k => ((if k = i then f0 else b k : Nat) : Int) := iL_congr fun k hk => by rw [if_neg (by omega)]
            rw [ec]
          · rw [show n - (i + 1) = m by omega]
            exact hB2
          · show Hld n (lean c) t (n - 1 - k) (if k = i then f0 else b k)
            by_cases ek : k = i
            · rw [if_pos ek, show n - 1 - k = m by omega]
              exact hB2.hld e'
            · rw [if_neg ek]
              exact hB k (by omega)
      rcases List.eq_nil_or_concat W with eW | ⟨W0, x, eW⟩
      · subst eW
        refine iteF ?_
        exact rest _ _ hGe hA fun W0 x z => absurd z.symm (by simp)
      · rw [List.concat_eq_append] at eW
        subst eW
        have nn : (!decide ((W0 ++ [x]).map (fun (k : Nat) => (k : Int)) = [])) = true := by simp
        rw [nn]
        have hx := hA.inr x (List.mem_append_right _ (List.mem_singleton.mpr rfl))
        have hSp : SqL K (upd H' e (.lst [])) p (iL n (lean c)) := SqL.of hGe.2.1
        refine ⟨_, rfl, _, rfl, _, rfl, _, _, _, _, rfl, rfl, SqL.of hGe.2.2.1, nL_last _ _, p, _, _, _, rfl, rfl, hSp, iL_at (i := x) rfl hx.2, _, rfl, _, rfl, p, _, _, _, rfl, rfl, hSp, iL_at (i := m) rfl hmn, _, _, rfl, rfl, _, rfl, ?_⟩
        refine ite2 (fun e2 => ?_) (fun e2 => ?_)
        · have e' := of_decide_eq_true e2
          refine ⟨fun σ' H' => ∃ W', W'.length < (W0 ++ [x]).length ∧ σ' = [some (.ref a), some (.int (t : Int)), some (.ref p), some (.ref wt), some (.ref fo), some (.int (m : Int))] ∧ G H' W' i b ∧ Wa n (lean c) t m W', fun σ' H' h => by
            obtain ⟨W', h1, h2⟩ := h
            exact ⟨W'.length, h1, W', rfl, h2⟩, ?_⟩
          refine ⟨_, rfl, .inl ⟨rfl, _, SqL.of hGe.2.2.1⟩, wt, _, .int (x : Int), rfl, rfl, hGe.2.2.1, ?_, W0, ?_, rfl, ?_, hA.pop e'⟩
          · rw [nL_snoc, List.length_append]
            simp
          · rw [List.length_append]
            exact Nat.lt_succ_self _
          · have g2 := gW (W' := W0) hGe
            rw [nL_snoc, List.dropLast_concat]
            exact g2
        · have e' : ¬ lean c m ≤ lean c x := fun z => e2 (decide_eq_true z)
          refine rest _ _ hGe hA fun W1 y z => ?_
          have : y = x := by
            have := List.append_inj_right' z rfl
            exact (List.cons.inj this).1.symm
          rw [this]
          omega
    · obtain ⟨_, y5, W, b, rfl, hG, hW, hB⟩ := pv
      have en : ((n : Int) - 0).toNat = n := by omega
      rw [en] at hG hB
      -- return found[::-1]
      refine ⟨_, rfl, fo, _, rfl, SqL.of hG.2.2.2, fun r nr => q _ r (fun i => b (n - 1 - i)) (hG.1.trans (same_new nr)) (hG.1.free nr) (by rw [upd_same, iL_rev]) fun i hi => ?_⟩
      have := hB (n - 1 - i) (by omega)
      rw [show n - 1 - (n - 1 - i) = i by omega] at this
      exact this

/-! ### after -/
abbrev s_after : Stmt := topS 15
theorem sc_after : FnScope ["cars", "steps", "at", "by"] ["cars", "steps"] (defScope s_after) := ⟨rfl, rfl, rfl, by decide +kernel, rfl, by decide +kernel, by decide +kernel⟩
def spAfter (K : PySem.W.Frag) : Sp := fun vs H Q _ => ∃ (a : Addr) (n : Nat) (c : Nat → Int) (t : Nat), vs = [.ref a, .int (t : Int)] ∧ SqL K H a (iL n c) ∧ Rising n c ∧ n ≤ 1000 ∧ ∀ H' p, Same H H' → H p = none → H' p = some (.lst (iL n (stt n c t))) → Q (.ref p) H'
theorem cal_after {f : Addr} {fd : FuncData} (F : Fun K "after" "after" s_after f fd) (g : mg "after" = some (.ref f)) (B : Blt mg) (c_asked_cars : Cal P w K mg base 2 "asked_cars" (spAskedCars K)) (c_asked_steps : Cal P w K mg base 2 "asked_steps" spAskedSteps) (c_holders : Cal P w K mg base 2 "holders" (spHolders K)) : Cal P w K mg base 3 "after" (spAfter K) := by
  refine ⟨f, fd, ["cars", "steps"], F.ok sc_after (fun vs H Q E h => ?_) (fun cdv A outer s H vs Q E hr h => ?_), g, F.kp, F.binds fun _ _ _ _ _ _ us hl => match us, hl with | [_, _], _ => rfl⟩
  · obtain ⟨a, n, c, t, rfl, _⟩ := h
    rfl
  · obtain ⟨a, n, c, t, rfl, hS, hR, hn, q⟩ := h
    refine ⟨_, (pss_cons (ps_expr (pe_c c_asked_cars hr (by decide) (by rfl) (pa_cons (pv 0) pa_nil))) (pss_cons (ps_expr (pe_c c_asked_steps hr (by decide) (by rfl) (pa_cons (pv 1) pa_nil))) (pss_one (ps_ret (pe_lc (own := [("at", 2), ("by", 3)]) (g := gTup K 2 (gCons (gName 2) (gCons (gName 3) gNil))) (tt := tYes) rfl sc_after.nd (pi_enum rfl B.enumerate (pa_cons (pe_c c_holders hr (by decide) (by rfl) (pa_cons (pv 0) (pa_cons (pv 1) pa_nil))) pa_nil)) (blkOk_by (own := [("at", 2), ("by", 3)]) (N := ["cars", "steps", "at", "by"]) (sc := defScope s_after) (by decide +kernel)) (fun _ _ _ _ _ => (pg_tup (n := 2) rfl (pgs_cons (pg_name (i := 2) sc_after.nd rfl (Or.inl rfl)) (pgs_cons (pg_name (i := 3) sc_after.nd rfl (Or.inl rfl)) pgs_nil)))) (fun _ _ _ _ _ => pts_nil) (fun _ _ _ _ _ => (pe_op op_sub (pe_op op_add (pe_ix (ixlK K) (pv 0) (pv 3) (fun _ _ => rfl)) (pv 1)) (pe_op op_mul pe_int (pe_op op_sub (pv 3) (pv 2)))))))))), ?_⟩
    refine ⟨_, rfl, a, n, c, rfl, hS, hR, hn, fun H1 s1 => ?_⟩
    refine ⟨_, rfl, (t : Int), rfl, by omega, ?_⟩
    refine ⟨_, rfl, _, rfl, a, n, c, t, rfl, s1.seq hS, hn, fun H2 p b s2 np ep hb => ?_⟩
    have hS2 := s2.seq (s1.seq hS)
    refine ⟨p, iL n fun i => (b i : Int), rfl, SqL.of ep, fun D hD => lc_fun (walk_enumI (n := n) (c := fun i => (b i : Int))) (fun i => V.int (c (b i) + (t : Int) - 2 * ((b i : Int) - (i : Int)))) (by omega) hD (fun H s => s.seq (SqL.of ep)) (fun i x H3 H4 hi s y Q' R' q' => ?_) (fun H3 s3 e3 => q H3 D (s1.trans (s2.trans s3)) ((s1.trans s2).free hD) ?_)⟩
    · obtain ⟨T, rfl, nT, rfl⟩ := y
      have sT := same_new (o := .tup [.int (i : Nat), .int (b i : Int)]) nT
      refine ⟨T, _, rfl, SqT.of upd_same, rfl, _, _, rfl, _, _, rfl, rfl, rfl, ?_⟩
      exact ⟨_, rfl, _, rfl, _, _, _, _, rfl, rfl, (s.trans sT).seq hS2, iL_at (i := b i) rfl (hb i hi).2.2.1, _, rfl, _, _, rfl, rfl, _, rfl, _, rfl, _, _, rfl, rfl, _, _, rfl, rfl, .inl ⟨by decide, by decide⟩, _, _, rfl, rfl, q' _ sT⟩
    · rw [e3]
      refine congrArg (fun z => some (HO.lst z)) (iL_congr fun i hi => (hb i hi).place hR)

/-! ### delays -/
abbrev s_delays : Stmt := topS 16
theorem sc_delays : FnScope ["cars", "told", "at", "by"] ["cars"] (defScope s_delays) := ⟨rfl, rfl, rfl, by decide +kernel, rfl, by decide +kernel, by decide +kernel⟩
def spDelays (K : PySem.W.Frag) : Sp := fun vs H Q _ => ∃ (a : Addr) (n : Nat) (c : Nat → Int), vs = [.ref a] ∧ SqL K H a (iL n c) ∧ Rising n c ∧ n ≤ 1000 ∧ ∀ H' p, Same H H' → H p = none → H' p = some (.lst (iL n (dly n c))) → Q (.ref p) H'
theorem cal_delays {f : Addr} {fd : FuncData} (F : Fun K "delays" "delays" s_delays f fd) (g : mg "delays" = some (.ref f)) (B : Blt mg) (c_asked_cars : Cal P w K mg base 2 "asked_cars" (spAskedCars K)) (c_leans : Cal P w K mg base 1 "leans" (spLeans K)) (c_holders : Cal P w K mg base 2 "holders" (spHolders K)) : Cal P w K mg base 3 "delays" (spDelays K) := by
  refine ⟨f, fd, ["cars"], F.ok sc_delays (fun vs H Q E h => ?_) (fun cdv A outer s H vs Q E hr h => ?_), g, F.kp, F.binds fun _ _ _ _ _ _ us hl => match us, hl with | [_], _ => rfl⟩
  · obtain ⟨a, n, c, rfl, _⟩ := h
    rfl
  · obtain ⟨a, n, c, rfl, hS, hR, hn, q⟩ := h
    refine ⟨_, (pss_cons (ps_expr (pe_c c_asked_cars hr (by decide) (by rfl) (pa_cons (pv 0) pa_nil))) (pss_cons (ps_set (i := 1) sc_delays.nd rfl (Or.inr rfl) (pe_c c_leans hr (by decide) (by rfl) (pa_cons (pv 0) pa_nil))) (pss_one (ps_ret (pe_lc (own := [("at", 2), ("by", 3)]) (g := gTup K 2 (gCons (gName 2) (gCons (gName 3) gNil))) (tt := tYes) rfl sc_delays.nd (pi_enum rfl B.enumerate (pa_cons (pe_c c_holders hr (by decide) (by rfl) (pa_cons (pv 0) (pa_cons (pe_callB (lenK K) (by rfl) B.len bt_len (pa_cons (pv 0) pa_nil)) pa_nil))) pa_nil)) (blkOk_by (own := [("at", 2), ("by", 3)]) (N := ["cars", "told", "at", "by"]) (sc := defScope s_delays) (by decide +kernel)) (fun _ _ _ _ _ => (pg_tup (n := 2) rfl (pgs_cons (pg_name (i := 2) sc_delays.nd rfl (Or.inl rfl)) (pgs_cons (pg_name (i := 3) sc_delays.nd rfl (Or.inl rfl)) pgs_nil)))) (fun _ _ _ _ _ => pts_nil) (fun _ _ _ _ _ => (pe_op op_sub (pe_ix (ixlK K) (pv 1) (pv 2) (fun _ _ => rfl)) (pe_ix (ixlK K) (pv 1) (pv 3) (fun _ _ => rfl))))))))), ?_⟩
    refine ⟨_, rfl, a, n, c, rfl, hS, hR, hn, fun H1 s1 => ?_⟩
    refine ⟨_, rfl, a, n, c, rfl, s1.seq hS, hn, fun H2 td s2 nt et => ?_⟩
    have hS2 := s2.seq (s1.seq hS)
    refine ⟨_, rfl, _, rfl, a, iL n c, rfl, .inl hS2, a, n, c, n, by rw [iL_len]; rfl, hS2, hn, fun H3 p b s3 np ep hb => ?_⟩
    have et3 := s3 _ _ et
    refine ⟨p, iL n fun i => (b i : Int), rfl, SqL.of ep, fun D hD => lc_fun (walk_enumI (n := n) (c := fun i => (b i : Int))) (fun i => V.int (lean c i - lean c (b i))) (by omega) hD (fun H s => s.seq (SqL.of ep)) (fun i x H4 H5 hi s y Q' R' q' => ?_) (fun H4 s4 e4 => q H4 D (s1.trans (s2.trans (s3.trans s4))) ((s1.trans (s2.trans s3)).free hD) ?_)⟩
    · obtain ⟨T, rfl, nT, rfl⟩ := y
      have sT := same_new (o := .tup [.int (i : Nat), .int (b i : Int)]) nT
      have hT := (s.trans sT).seq (SqL.of (K := K) et3)
      refine ⟨T, _, rfl, SqT.of upd_same, rfl, _, _, rfl, _, _, rfl, rfl, rfl, ?_⟩
      exact ⟨_, rfl, _, rfl, _, _, _, _, rfl, rfl, hT, iL_at (i := i) rfl hi, _, rfl, _, rfl, _, _, _, _, rfl, rfl, hT, iL_at (i := b i) rfl (hb i hi).2.2.1, _, _, rfl, rfl, q' _ sT⟩
    · rw [e4]
      refine congrArg (fun z => some (HO.lst z)) (iL_congr fun i hi => (hb i hi).delay hR)

/-! ### free_from -/
abbrev s_free_from : Stmt := topS 17
theorem sc_free_from : FnScope ["cars", "at", "by"] ["cars"] (defScope s_free_from) := ⟨rfl, rfl, rfl, by decide +kernel, rfl, by decide +kernel, by decide +kernel⟩
def spFreeFrom (K : PySem.W.Frag) : Sp := fun vs H Q _ => ∃ (a : Addr) (n : Nat) (c : Nat → Int), vs = [.ref a] ∧ SqL K H a (iL n c) ∧ Rising n c ∧ n ≤ 1000 ∧ ∀ H' p, Same H H' → H p = none → H' p = some (.lst (iL n fun i => (fre n c i n : Int))) → Q (.ref p) H'
theorem cal_free_from {f : Addr} {fd : FuncData} (F : Fun K "free_from" "free_from" s_free_from f fd) (g : mg "free_from" = some (.ref f)) (B : Blt mg) (c_asked_cars : Cal P w K mg base 2 "asked_cars" (spAskedCars K)) (c_holders : Cal P w K mg base 2 "holders" (spHolders K)) : Cal P w K mg base 3 "free_from" (spFreeFrom K) := by
  refine ⟨f, fd, ["cars"], F.ok sc_free_from (fun vs H Q E h => ?_) (fun cdv A outer s H vs Q E hr h => ?_), g, F.kp, F.binds fun _ _ _ _ _ _ us hl => match us, hl with | [_], _ => rfl⟩
  · obtain ⟨a, n, c, rfl, _⟩ := h
    rfl
  · obtain ⟨a, n, c, rfl, hS, hR, hn, q⟩ := h
    refine ⟨_, (pss_cons (ps_expr (pe_c c_asked_cars hr (by decide) (by rfl) (pa_cons (pv 0) pa_nil))) (pss_one (ps_ret (pe_lc (own := [("at", 1), ("by", 2)]) (g := gTup K 2 (gCons (gName 1) (gCons (gName 2) gNil))) (tt := tYes) rfl sc_free_from.nd (pi_enum rfl B.enumerate (pa_cons (pe_c c_holders hr (by decide) (by rfl) (pa_cons (pv 0) (pa_cons (pe_callB (lenK K) (by rfl) B.len bt_len (pa_cons (pv 0) pa_nil)) pa_nil))) pa_nil)) (blkOk_by (own := [("at", 1), ("by", 2)]) (N := ["cars", "at", "by"]) (sc := defScope s_free_from) (by decide +kernel)) (fun _ _ _ _ _ => (pg_tup (n := 2) rfl (pgs_cons (pg_name (i := 1) sc_free_from.nd rfl (Or.inl rfl)) (pgs_cons (pg_name (i := 2) sc_free_from.nd rfl (Or.inl rfl)) pgs_nil)))) (fun _ _ _ _ _ => pts_nil) (fun _ _ _ _ _ => (pe_op op_sub (pv 2) (pv 1))))))), ?_⟩
    refine ⟨_, rfl, a, n, c, rfl, hS, hR, hn, fun H1 s1 => ?_⟩
    have hS1 := s1.seq hS
    refine ⟨_, rfl, _, rfl, a, iL n c, rfl, .inl hS1, a, n, c, n, by rw [iL_len]; rfl, hS1, hn, fun H2 p b s2 np ep hb => ?_⟩
    refine ⟨p, iL n fun i => (b i : Int), rfl, SqL.of ep, fun D hD => lc_fun (walk_enumI (n := n) (c := fun i => (b i : Int))) (fun i => V.int ((b i : Int) - (i : Int))) (by omega) hD (fun H s => s.seq (SqL.of ep)) (fun i x H3 H4 hi s y Q' R' q' => ?_) (fun H3 s3 e3 => q H3 D (s1.trans (s2.trans s3)) ((s1.trans s2).free hD) ?_)⟩
    · obtain ⟨T, rfl, nT, rfl⟩ := y
      have sT := same_new (o := .tup [.int (i : Nat), .int (b i : Int)]) nT
      refine ⟨T, _, rfl, SqT.of upd_same, rfl, _, _, rfl, _, _, rfl, rfl, rfl, ?_⟩
      exact ⟨_, rfl, _, rfl, _, _, rfl, rfl, q' _ sT⟩
    · rw [e3]
      refine congrArg (fun z => some (HO.lst z)) (iL_congr fun i hi => (hb i hi).freeN hR)
end
end JR

namespace JR
open PySem PySem.Spec PyProof.Rows L2
/-! ### plain -/
section
variable {n : Nat} {x : Int → Bool}
theorem Per.fm (h : Per n x) (p : Int) : x (p.fmod n) = x p := by
  rw [Int.fmod_eq_emod_of_nonneg p (by omega)]
  exact h.mod p
theorem fm_lo (hn : 0 < n) (p : Int) : 0 ≤ p.fmod (n : Int) := Int.fmod_nonneg_of_pos p (by omega)
theorem fm_hi (hn : 0 < n) (p : Int) : p.fmod (n : Int) < n := Int.fmod_lt_of_pos p (by omega)
theorem shf_fm (h : Per n x) (b : Int) : shf (b.fmod n) x = shf b x := by
  funext p
  unfold shf
  have e := h.mul (p + b) (-(b.fdiv n))
  have e2 := Int.mul_fdiv_add_fmod b n
  rw [show p + b + (n : Int) * -(b.fdiv n) = p + b.fmod n by rw [Int.mul_neg]; omega] at e
  exact e
theorem ones_snoc (n : Nat) (x : Int → Bool) : (onesL n x).map V.str ++ [V.str (one (x (n : Nat)))] = (onesL (n + 1) x).map V.str := by
  unfold onesL
  rw [List.range_succ, List.map_append, List.map_append]
  rfl
theorem ones_len (n : Nat) (x : Int → Bool) : ((onesL n x).map V.str).length = n := by
  unfold onesL
  rw [List.length_map, List.length_map, List.length_range]
/-- so many steps, by steps up to half the places, then by going round -/
theorem after_cc (h : Per n x) (hn : 0 < n) (k : 2 * cnt x 0 n ≤ n) (t : Nat) : shf (-((t : Int) - ((min t (n / 2) : Nat) : Int))) (its x (min t (n / 2))) = its x t := by
  by_cases c : t ≤ n / 2
  · rw [Nat.min_eq_left c]
    funext p
    unfold shf
    rw [show p + -((t : Int) - (t : Int)) = p by omega]
  · rw [Nat.min_eq_right (by omega)]
    funext p
    have e := (settled_cc h hn k (Nat.le_refl (n / 2))).round (t - n / 2) p
    rw [its_add, show n / 2 + (t - n / 2) = t by omega] at e
    rw [e]
    unfold shf
    rw [show p + -((t : Int) - ((n / 2 : Nat) : Int)) = p - ((t - n / 2 : Nat) : Int) by omega]
theorem after_gg (h : Per n x) (hn : 0 < n) (k : n ≤ 2 * cnt x 0 n) (t : Nat) : shf (-(((min t (n / 2) : Nat) : Int) - (t : Int))) (its x (min t (n / 2))) = its x t := by
  by_cases c : t ≤ n / 2
  · rw [Nat.min_eq_left c]
    funext p
    unfold shf
    rw [show p + -((t : Int) - (t : Int)) = p by omega]
  · rw [Nat.min_eq_right (by omega)]
    funext p
    have e := (settled_gg h hn k (Nat.le_refl (n / 2))).round (t - n / 2) p
    rw [its_add, show n / 2 + (t - n / 2) = t by omega] at e
    rw [e]
    unfold shf
    rw [show p + -(((n / 2 : Nat) : Int) - (t : Int)) = p + ((t - n / 2 : Nat) : Int) by omega]
end
section
variable {P : Program} {w : World} {K : PySem.W.Frag} {mg : Str → Option Value} {base : Heap}
theorem tx_fits {n : Nat} {x : Int → Bool} (h : n ≤ 1000) : (tx n x).length ≤ sizeLine := by
  rw [tx_len]
  exact le_line (by omega)
/-! ### asked_ring -/
abbrev s_asked_ring : Stmt := topS 27
theorem sc_asked_ring : FnScope ["ring"] ["ring"] (defScope s_asked_ring) := ⟨rfl, rfl, rfl, by decide +kernel, rfl, by decide +kernel, by decide +kernel⟩
def spAskedRing : Sp := fun vs H Q _ => ∃ (n : Nat) (x : Int → Bool), vs = [.str (tx n x)] ∧ 0 < n ∧ n ≤ 1000 ∧ Q .non H
theorem cal_asked_ring {f : Addr} {fd : FuncData} (F : Fun K "asked_ring" "asked_ring" s_asked_ring f fd) (g : mg "asked_ring" = some (.ref f)) (B : Blt mg) : Cal P w K mg base 1 "asked_ring" spAskedRing := by
  refine ⟨f, fd, ["ring"], F.ok sc_asked_ring (fun vs H Q E h => ?_) (fun cdv A outer s H vs Q E hr h => ?_), g, F.kp, F.binds fun _ _ _ _ _ _ us hl => match us, hl with | [_], _ => rfl⟩
  · obtain ⟨n, x, rfl, _⟩ := h
    rfl
  · obtain ⟨n, x, rfl, hn, hn2, q⟩ := h
    refine ⟨_, (pss_one (ps_if (PW.pt (pw_or (pt_not (pt_val (pe_callB (isiK K) (by rfl) B.isinstance bt_isinstance (pa_cons (pv 0) (pa_cons (pe_ty (by rfl) B.str bt_str) pa_nil))))) (pw_or (pt_cmpR op_ne (pe_m1 PySem.F.slot_str_strip PySem.F.type_str_strip mt_stripChars (pv 0) pe_str) pe_str rfl) (pw_or1 (pt_cmpR op_eq (pv 0) pe_str rfl))))) pss_never pss_nil)), ?_⟩
    refine ⟨_, rfl, .str (tx n x), .ty "str", .type "str", .type "str", true, rfl, .ty _, .base (.str _), kit_ty (by decide +kernel), true, rfl, iteF ?_⟩
    refine ⟨_, rfl, ⟨_, rfl⟩, _, _, rfl, rfl, tx_fits hn2, rfl, _, rfl, ?_⟩
    rw [decide_eq_true (congrArg V.str (tx_strip hn))]
    refine ⟨_, rfl, rfl, _, rfl, ?_⟩
    refine ite2 (fun e => ?_) (fun e => ?_)
    · have e2 : decide (V.str (tx n x) = V.str ("" : Str)) = true := e
      rw [tx_nil hn] at e2
      cases e2
    · exact q
/-! ### moved -/
abbrev s_moved : Stmt := topS 28
theorem sc_moved : FnScope ["ring", "found", "at", "sign", "later"] ["ring"] (defScope s_moved) := ⟨rfl, rfl, rfl, by decide +kernel, rfl, by decide +kernel, by decide +kernel⟩
def spRing1 (y : Nat → (Int → Bool) → V) : Sp := fun vs H Q _ => ∃ (n : Nat) (x : Int → Bool), vs = [.str (tx n x)] ∧ Per n x ∧ 0 < n ∧ n ≤ 1000 ∧ ∀ H', Same H H' → Q (y n x) H'
def spStp : Sp := spRing1 fun n x => .str (tx n (stp x))
theorem cal_moved {f : Addr} {fd : FuncData} (F : Fun K "moved" "moved" s_moved f fd) (g : mg "moved" = some (.ref f)) (B : Blt mg) : Cal P w K mg base 1 "moved" spStp := by
  refine ⟨f, fd, ["ring"], F.ok sc_moved (fun vs H Q E h => ?_) (fun cdv A outer s H vs Q E hr h => ?_), g, F.kp, F.binds fun _ _ _ _ _ _ us hl => match us, hl with | [_], _ => rfl⟩
  · obtain ⟨n, x, rfl, _⟩ := h
    rfl
  · obtain ⟨n, x, rfl, hP, hn, hn2, q⟩ := h
    refine ⟨_, (pss_cons (ps_set (i := 1) sc_moved.nd rfl (Or.inl rfl) (pe_lst pa_nil)) (pss_cons (ps_for PassesOwn.never rfl (pi_enumS rfl B.enumerate (pa_cons (pv 0) pa_nil)) (pg_tup rfl (pgs_cons (pg_name (i := 2) sc_moved.nd rfl (Or.inl rfl)) (pgs_cons (pg_name (i := 3) sc_moved.nd rfl (Or.inl rfl)) pgs_nil))) (pss_cons (ps_set (i := 4) sc_moved.nd rfl (Or.inl rfl) (pe_ix ix_str (pv 0) (pe_op op_modN (pe_op op_add (pv 2) pe_int) (pe_callB call_len_str (by rfl) B.len bt_len (pa_cons (pv 0) pa_nil))) (fun _ _ => rfl))) (pss_one (ps_if (pt_cmpR op_eq (pv 3) pe_str rfl) (pss_one (ps_expr (pe_bm PySem.F.plainAttrs_list PySem.F.slot_list_append PySem.F.type_list_append mt_append (pv 1) (pa_cons (pe_ifExp (pt_cmpR op_eq (pv 4) pe_str rfl) (pv 4) pe_str) pa_nil)))) (pss_one (ps_expr (pe_bm PySem.F.plainAttrs_list PySem.F.slot_list_append PySem.F.type_list_append mt_append (pv 1) (pa_cons (pe_ifExp (pt_cmpR op_eq (pe_ix ix_str (pv 0) (pe_op op_sub (pv 2) pe_int) (fun _ _ => rfl)) pe_str rfl) pe_str pe_str) pa_nil)))))))) (pss_one (ps_ret (pe_join pe_str (pv 1)))))), ?_⟩
    refine ⟨Nat.zero_le _, fun o no => ?_⟩
    have s1 := same_new (o := .lst []) no
    refine ⟨_, rfl, tx n x, rfl, for_it (walk_enumS (n := n) tx_size) (fun i σ H' => ∃ y2 y3 y4, σ = [some (.str (tx n x)), some (.ref o), y2, y3, y4] ∧ Same H H' ∧ H' o = some (.lst ((onesL i (stp x)).map V.str))) ⟨none, none, none, rfl, s1, upd_same⟩ (fun i σ H' _ p => trivial) (fun i v σ H2 H3 hi p y => ?_) (fun σ H2 p => ?_)⟩
    · obtain ⟨y2, y3, y4, rfl, sm, eo⟩ := p
      obtain ⟨T, c, rfl, nT, ec, rfl⟩ := y
      have ec := (tx_get hi).symm.trans ec
      cases ec
      have sT := same_new (o := .tup [.int (i : Nat), .str ⟨#[code (x i)]⟩]) nT
      have s3 := sm.trans sT
      have eo3 := sT _ _ eo
      refine ⟨T, _, rfl, SqT.of upd_same, rfl, _, _, rfl, _, _, rfl, rfl, ?_⟩
      refine ⟨_, rfl, _, rfl, _, _, rfl, rfl, _, rfl, _, rfl, tx_fits hn2, _, _, rfl, rfl, (show ((tx n x).length : Int) ≠ 0 by rw [tx_len]; omega), ?_⟩
      have e0 : ((i : Int) + 1).fmod ((tx n x).length : Int) = ((i : Int) + 1).fmod n := by rw [tx_len]
      refine ⟨_, _, code (x ((i : Int) + 1)), rfl, rfl, tx_fits hn2, by rw [e0, tx_at hP hn (by have := fm_lo hn ((i : Int) + 1); omega) (fm_hi hn _), hP.fm], ?_⟩
      have fin : ∀ v : Bool, v = stp x i → ∃ y2 y3 y4, [some (V.str (tx n x)), some (.ref o), some (.int (i : Nat)), some (.str ⟨#[code (x i)]⟩), some (.str ⟨#[code (x ((i : Int) + 1))]⟩)] = [some (.str (tx n x)), some (.ref o), y2, y3, y4] ∧ Same H (upd (upd H2 T (.tup [.int (i : Nat), .str ⟨#[code (x i)]⟩])) o (.lst ((onesL i (stp x)).map V.str ++ [V.str (one v)]))) ∧ upd (upd H2 T (.tup [.int (i : Nat), .str ⟨#[code (x i)]⟩])) o (.lst ((onesL i (stp x)).map V.str ++ [V.str (one v)])) o = some (.lst ((onesL (i + 1) (stp x)).map V.str)) := fun v hv => by
        refine ⟨_, _, _, rfl, same_mut s3 no, ?_⟩
        rw [upd_same, hv, ones_snoc]
      have hlt : ((onesL i (stp x)).map V.str).length < sizeLine := by rw [ones_len]; exact lt_line (by omega)
      refine ⟨_, rfl, rfl, _, rfl, ?_⟩
      refine ite2 (fun e => ?_) (fun e => ?_)
      · have ex : x i = true := (is_c (x i)).symm.trans e
        refine ⟨_, rfl, .inl ⟨rfl, _, SqL.of eo3⟩, _, rfl, rfl, _, rfl, ?_⟩
        refine ite2 (fun e2 => ?_) (fun e2 => ?_)
        · exact ⟨_, rfl, o, _, _, rfl, rfl, eo3, hlt, fin (x ((i : Int) + 1)) (by unfold stp; rw [if_pos ex])⟩
        · have ex2 : x ((i : Int) + 1) = false := by
            cases u : x ((i : Int) + 1) with
            | false => rfl
            | true => exact absurd ((is_c (x ((i : Int) + 1))).trans u) e2
          refine ⟨o, _, _, rfl, rfl, eo3, hlt, ?_⟩
          have := fin false (by unfold stp; rw [if_pos ex, ex2])
          rw [one_d] at this
          exact this
      · have ex : x i = false := by
          cases u : x i with
          | false => rfl
          | true => exact absurd ((is_c (x i)).trans u) e
        refine ⟨_, rfl, .inl ⟨rfl, _, SqL.of eo3⟩, _, rfl, _, rfl, _, _, rfl, rfl, _, _, code (x ((i : Int) - 1)), rfl, rfl, tx_fits hn2, tx_at hP hn (by omega) (by omega), rfl, _, rfl, ?_⟩
        refine ite2 (fun e2 => ?_) (fun e2 => ?_)
        · have ex2 : x ((i : Int) - 1) = true := (is_c (x ((i : Int) - 1))).symm.trans e2
          refine ⟨o, _, _, rfl, rfl, eo3, hlt, ?_⟩
          have := fin true (by unfold stp; rw [if_neg (by rw [ex]; decide), ex2])
          rw [one_c] at this
          exact this
        · have ex2 : x ((i : Int) - 1) = false := by
            cases u : x ((i : Int) - 1) with
            | false => rfl
            | true => exact absurd ((is_c (x ((i : Int) - 1))).trans u) e2
          refine ⟨o, _, _, rfl, rfl, eo3, hlt, ?_⟩
          have := fin false (by unfold stp; rw [if_neg (by rw [ex]; decide), ex2])
          rw [one_d] at this
          exact this
    · obtain ⟨y2, y3, y4, rfl, sm, eo⟩ := p
      refine ⟨⟨_, rfl⟩, _, rfl, _, o, onesL n (stp x), rfl, rfl, .inl (SqL.of eo), ?_, ?_⟩
      · have := ones_sum (n := n) (x := stp x)
        exact Nat.le_trans (Nat.le_of_eq this) (by omega)
      · have : Q (.str (tx n (stp x))) H2 := q _ sm
        rw [← join_ones] at this
        exact this
/-! ### around -/
abbrev s_around : Stmt := topS 29
theorem sc_around : FnScope ["ring"] ["ring"] (defScope s_around) := ⟨rfl, rfl, rfl, by decide +kernel, rfl, by decide +kernel, by decide +kernel⟩
theorem cal_around {f : Addr} {fd : FuncData} (F : Fun K "around" "around" s_around f fd) (g : mg "around" = some (.ref f)) (B : Blt mg) (c_asked_ring : Cal P w K mg base 1 "asked_ring" spAskedRing) (c_moved : Cal P w K mg base 1 "moved" spStp) : Cal P w K mg base 2 "around" spStp := by
  refine ⟨f, fd, ["ring"], F.ok sc_around (fun vs H Q E h => ?_) (fun cdv A outer s H vs Q E hr h => ?_), g, F.kp, F.binds fun _ _ _ _ _ _ us hl => match us, hl with | [_], _ => rfl⟩
  · obtain ⟨n, x, rfl, _⟩ := h
    rfl
  · obtain ⟨n, x, rfl, hP, hn, hn2, q⟩ := h
    refine ⟨_, (pss_cons (ps_expr (pe_c c_asked_ring hr (by decide) (by rfl) (pa_cons (pv 0) pa_nil))) (pss_one (ps_ret (pe_c c_moved hr (by decide) (by rfl) (pa_cons (pv 0) pa_nil))))), ?_⟩
    refine ⟨_, rfl, n, x, rfl, hn, hn2, ?_⟩
    exact ⟨_, rfl, n, x, rfl, hP, hn, hn2, q⟩
/-! ### turned -/
abbrev s_turned : Stmt := topS 30
theorem sc_turned : FnScope ["ring", "by", "first"] ["ring", "by"] (defScope s_turned) := ⟨rfl, rfl, rfl, by decide +kernel, rfl, by decide +kernel, by decide +kernel⟩
def spTurned : Sp := fun vs H Q _ => ∃ (n : Nat) (x : Int → Bool) (b : Int), vs = [.str (tx n x), .int b] ∧ Per n x ∧ 0 < n ∧ n ≤ 1000 ∧ Q (.str (tx n (shf (-b) x))) H
theorem cal_turned {f : Addr} {fd : FuncData} (F : Fun K "turned" "turned" s_turned f fd) (g : mg "turned" = some (.ref f)) (B : Blt mg) : Cal P w K mg base 1 "turned" spTurned := by
  refine ⟨f, fd, ["ring", "by"], F.ok sc_turned (fun vs H Q E h => ?_) (fun cdv A outer s H vs Q E hr h => ?_), g, F.kp, F.binds fun _ _ _ _ _ _ us hl => match us, hl with | [_, _], _ => rfl⟩
  · obtain ⟨n, x, b, rfl, _⟩ := h
    rfl
  · obtain ⟨n, x, b, rfl, hP, hn, hn2, q⟩ := h
    refine ⟨_, (pss_cons (ps_set (i := 2) sc_turned.nd rfl (Or.inl rfl) (pe_op op_modN (pe_un un_neg (pv 1)) (pe_callB call_len_str (by rfl) B.len bt_len (pa_cons (pv 0) pa_nil)))) (pss_one (ps_ret (pe_op op_add_str (pe_slice sl_str (pv 0) (po_some (pv 2)) po_none) (pe_slice sl_str (pv 0) po_none (po_some (pv 2))))))), ?_⟩
    refine ⟨_, rfl, _, rfl, _, rfl, _, rfl, tx_fits hn2, _, _, rfl, rfl, (show ((tx n x).length : Int) ≠ 0 by rw [tx_len]; omega), ?_⟩
    refine ⟨_, rfl, _, rfl, _, rfl, _, rfl, tx_fits hn2, ?_⟩
    refine ⟨_, rfl, _, rfl, _, rfl, _, rfl, tx_fits hn2, ?_⟩
    have e0 : (-b).fmod ((tx n x).length : Int) = (-b).fmod n := by rw [tx_len]
    refine ⟨_, _, rfl, rfl, ?_, ?_⟩
    · have h1 := Nat.le_trans (cutS_length (tx n x) (some ((-b).fmod ((tx n x).length : Int))) none) (Nat.le_of_eq tx_len)
      have h2 := Nat.le_trans (cutS_length (tx n x) none (some ((-b).fmod ((tx n x).length : Int)))) (Nat.le_of_eq tx_len)
      exact le_line (by omega)
    · rw [e0, tx_turn hP (fm_lo hn _) (Int.le_of_lt (fm_hi hn _)), shf_fm hP]
      exact q
/-! ### around_after -/
abbrev s_around_after : Stmt := topS 31
theorem sc_around_after : FnScope ["ring", "steps", "now", "first", "step"] ["ring", "steps"] (defScope s_around_after) := ⟨rfl, rfl, rfl, by decide +kernel, rfl, by decide +kernel, by decide +kernel⟩
def spAround (y : Nat → (Int → Bool) → Nat → V) : Sp := fun vs H Q _ => ∃ (n : Nat) (x : Int → Bool) (t : Nat), vs = [.str (tx n x), .int (t : Int)] ∧ Per n x ∧ 0 < n ∧ n ≤ 1000 ∧ ∀ H', Same H H' → Q (y n x t) H'
def spAfterR : Sp := spAround fun n x t => .str (tx n (its x t))
theorem cal_around_after {f : Addr} {fd : FuncData} (F : Fun K "around_after" "around_after" s_around_after f fd) (g : mg "around_after" = some (.ref f)) (B : Blt mg) (c_asked_ring : Cal P w K mg base 1 "asked_ring" spAskedRing) (c_asked_steps : Cal P w K mg base 2 "asked_steps" spAskedSteps)
    (c_moved : Cal P w K mg base 1 "moved" spStp) (c_turned : Cal P w K mg base 1 "turned" spTurned) : Cal P w K mg base 3 "around_after" spAfterR := by
  refine ⟨f, fd, ["ring", "steps"], F.ok sc_around_after (fun vs H Q E h => ?_) (fun cdv A outer s H vs Q E hr h => ?_), g, F.kp, F.binds fun _ _ _ _ _ _ us hl => match us, hl with | [_, _], _ => rfl⟩
  · obtain ⟨n, x, t, rfl, _⟩ := h
    rfl
  · obtain ⟨n, x, t, rfl, hP, hn, hn2, q⟩ := h
    refine ⟨_, (pss_cons (ps_expr (pe_c c_asked_ring hr (by decide) (by rfl) (pa_cons (pv 0) pa_nil))) (pss_cons (ps_expr (pe_c c_asked_steps hr (by decide) (by rfl) (pa_cons (pv 1) pa_nil))) (pss_cons (ps_set (i := 2) sc_around_after.nd rfl (Or.inl rfl) (pv 0)) (pss_cons (ps_set (i := 3) sc_around_after.nd rfl (Or.inl rfl) (pe_callB (call_min2 rfl) (by rfl) B.min bt_min (pa_cons (pv 1) (pa_cons (pe_op op_fdivN (pe_callB call_len_str (by rfl) B.len bt_len (pa_cons (pv 0) pa_nil)) pe_int) pa_nil)))) (pss_cons (ps_for PassesOwn.never rfl (pi_range1 rfl B.range (pa_cons (pv 3) pa_nil)) (pg_name (i := 4) sc_around_after.nd rfl (Or.inl rfl)) (pss_one (ps_set (i := 2) sc_around_after.nd rfl (Or.inl rfl) (pe_c c_moved hr (by decide) (by rfl) (pa_cons (pv 2) pa_nil))))) (pss_cons (ps_if (pt_cmpR op_le (pe_op op_mul pe_int (pe_m1 PySem.F.slot_str_count PySem.F.type_str_count mt_count (pv 0) pe_str)) (pe_callB call_len_str (by rfl) B.len bt_len (pa_cons (pv 0) pa_nil)) rfl) (pss_one (ps_ret (pe_c c_turned hr (by decide) (by rfl) (pa_cons (pv 2) (pa_cons (pe_op op_sub (pv 1) (pv 3)) pa_nil))))) pss_nil) (pss_one (ps_ret (pe_c c_turned hr (by decide) (by rfl) (pa_cons (pv 2) (pa_cons (pe_op op_sub (pv 3) (pv 1)) pa_nil))))))))))), ?_⟩
    refine ⟨_, rfl, n, x, rfl, hn, hn2, ?_⟩
    refine ⟨_, rfl, (t : Int), rfl, by omega, ?_⟩
    refine ⟨_, rfl, ?_⟩
    -- first
    refine ⟨_, rfl, _, rfl, _, rfl, tx_fits hn2, _, _, rfl, rfl, ⟨by decide, by decide⟩, _, _, rfl, ?_⟩
    have ef : (if ((tx n x).length : Int).fdiv 2 < (t : Int) then ((tx n x).length : Int).fdiv 2 else (t : Int)) = ((min t (n / 2) : Nat) : Int) := by
      rw [tx_len, show (n : Int).fdiv 2 = ((n / 2 : Nat) : Int) by rw [Int.fdiv_eq_ediv_of_nonneg (n : Int) (by decide)]; rfl]
      split <;> omega
    generalize hm : min t (n / 2) = m at ef
    have hm2 : m ≤ n := by omega
    -- for step in range(first)
    refine ⟨_, rfl, (m : Int), by rw [← ef], by omega, by omega, for_it (walk_range (lo := 0) (n := (m : Int).toNat)) (fun i σ H' => ∃ y4, σ = [some (.str (tx n x)), some (.int (t : Int)), some (.str (tx n (its x i))), some (.int (m : Int)), y4] ∧ Same H H')
      ⟨none, by rw [← ef]; rfl, Same.refl _⟩ (fun _ _ _ _ _ => trivial) (fun i v σ H2 H3 hi p y => ?_) (fun σ H2 p => ?_)⟩
    · obtain ⟨y4, rfl, sm⟩ := p
      obtain ⟨rfl, rfl⟩ := y
      exact ⟨_, rfl, n, its x i, rfl, hP.its i, hn, hn2, fun H4 s4 => ⟨_, rfl, sm.trans s4⟩⟩
    · obtain ⟨y4, rfl, sm⟩ := p
      rw [show (m : Int).toNat = m by omega]
      -- if 2 * ring.count('c') <= len(ring)
      refine ⟨_, rfl, ⟨_, rfl⟩, _, _, rfl, rfl, _, _, rfl, rfl, .inl ⟨by decide, by decide⟩, _, rfl, _, rfl, tx_fits hn2, _, _, rfl, rfl, _, rfl, ?_⟩
      have hP' := hP.its m
      refine ite2 (fun e => ?_) (fun e => ?_)
      · have e1 := of_decide_eq_true e
        have e1 : 2 * Txt.count (tx n x) ("c" : Str) ≤ ((tx n x).length : Int) := e1
        rw [count_c, tx_len] at e1
        refine ⟨_, rfl, _, rfl, _, rfl, _, _, rfl, rfl, n, its x m, _, rfl, hP', hn, hn2, ?_⟩
        have := after_cc hP hn (by omega) t
        rw [hm] at this
        rw [this]
        exact q _ sm
      · have e1 : ¬ 2 * Txt.count (tx n x) ("c" : Str) ≤ ((tx n x).length : Int) := fun z => e (decide_eq_true z)
        rw [count_c, tx_len] at e1
        refine ⟨_, rfl, _, rfl, _, rfl, _, _, rfl, rfl, n, its x m, _, rfl, hP', hn, hn2, ?_⟩
        have := after_gg hP hn (by omega) t
        rw [hm] at this
        rw [this]
        exact q _ sm
/-! ### flow_of -/
abbrev s_flow_of : Stmt := topS 32
theorem sc_flow_of : FnScope ["ring"] ["ring"] (defScope s_flow_of) := ⟨rfl, rfl, rfl, by decide +kernel, rfl, by decide +kernel, by decide +kernel⟩
def spFlowOf : Sp := fun vs H Q _ => ∃ (n : Nat) (x : Int → Bool), vs = [.str (tx n x)] ∧ Per n x ∧ 0 < n ∧ n ≤ 1000 ∧ Q (.int ((flw n x : Nat) : Int)) H
theorem cal_flow_of {f : Addr} {fd : FuncData} (F : Fun K "flow_of" "flow_of" s_flow_of f fd) (g : mg "flow_of" = some (.ref f)) (B : Blt mg) : Cal P w K mg base 1 "flow_of" spFlowOf := by
  refine ⟨f, fd, ["ring"], F.ok sc_flow_of (fun vs H Q E h => ?_) (fun cdv A outer s H vs Q E hr h => ?_), g, F.kp, F.binds fun _ _ _ _ _ _ us hl => match us, hl with | [_], _ => rfl⟩
  · obtain ⟨n, x, rfl, _⟩ := h
    rfl
  · obtain ⟨n, x, rfl, hP, hn, hn2, q⟩ := h
    refine ⟨_, (pss_one (ps_ret (pe_m1 PySem.F.slot_str_count PySem.F.type_str_count mt_count (pe_op op_add_str (pv 0) (pe_ix ix_str (pv 0) pe_int (fun _ _ => rfl))) pe_str))), ?_⟩
    refine ⟨_, rfl, _, rfl, _, _, code (x 0), rfl, rfl, tx_fits hn2, tx_at hP hn (by decide) (by omega), _, _, rfl, rfl, ?_, ⟨_, rfl⟩, _, _, rfl, rfl, ?_⟩
    · show (tx n x).length + 1 ≤ sizeLine
      rw [tx_len]
      exact le_line (by omega)
    · have e : Txt.count (tx n x ++ one (x 0)) ("c." : Str) = ((flw n x : Nat) : Int) := by rw [tx_more hP, count_cd]
      rw [← e] at q
      exact q
/-! ### flow -/
abbrev s_flow : Stmt := topS 33
theorem sc_flow : FnScope ["ring", "steps"] ["ring", "steps"] (defScope s_flow) := ⟨rfl, rfl, rfl, by decide +kernel, rfl, by decide +kernel, by decide +kernel⟩
def spFlow : Sp := spAround fun n x t => .int ((flw n (its x t) : Nat) : Int)
theorem cal_flow {f : Addr} {fd : FuncData} (F : Fun K "flow" "flow" s_flow f fd) (g : mg "flow" = some (.ref f)) (B : Blt mg) (c_around_after : Cal P w K mg base 3 "around_after" spAfterR) (c_flow_of : Cal P w K mg base 1 "flow_of" spFlowOf) : Cal P w K mg base 4 "flow" spFlow := by
  refine ⟨f, fd, ["ring", "steps"], F.ok sc_flow (fun vs H Q E h => ?_) (fun cdv A outer s H vs Q E hr h => ?_), g, F.kp, F.binds fun _ _ _ _ _ _ us hl => match us, hl with | [_, _], _ => rfl⟩
  · obtain ⟨n, x, t, rfl, _⟩ := h
    rfl
  · obtain ⟨n, x, t, rfl, hP, hn, hn2, q⟩ := h
    refine ⟨_, (pss_one (ps_ret (pe_c c_flow_of hr (by decide) (by rfl) (pa_cons (pe_c c_around_after hr (by decide) (by rfl) (pa_cons (pv 0) (pa_cons (pv 1) pa_nil))) pa_nil)))), ?_⟩
    exact ⟨_, rfl, _, rfl, n, x, t, rfl, hP, hn, hn2, fun H1 s1 => ⟨n, its x t, rfl, hP.its t, hn, hn2, q _ s1⟩⟩
/-! ### settled -/
abbrev s_settled : Stmt := topS 34
theorem sc_settled : FnScope ["ring", "most", "now", "many"] ["ring"] (defScope s_settled) := ⟨rfl, rfl, rfl, by decide +kernel, rfl, by decide +kernel, by decide +kernel⟩
def spSettled : Sp := fun vs H Q _ => ∃ (n : Nat) (x : Int → Bool), vs = [.str (tx n x)] ∧ Per n x ∧ 0 < n ∧ n ≤ 1000 ∧ ∀ (k : Nat) H', Same H H' → k ≤ n / 2 → flw n (its x k) = most n x → (∀ j, j < k → flw n (its x j) < most n x) → Q (.int (k : Int)) H'
theorem cal_settled {f : Addr} {fd : FuncData} (F : Fun K "settled" "settled" s_settled f fd) (g : mg "settled" = some (.ref f)) (B : Blt mg) (c_asked_ring : Cal P w K mg base 1 "asked_ring" spAskedRing) (c_flow_of : Cal P w K mg base 1 "flow_of" spFlowOf) (c_moved : Cal P w K mg base 1 "moved" spStp) : Cal P w K mg base 2 "settled" spSettled := by
  refine ⟨f, fd, ["ring"], F.ok sc_settled (fun vs H Q E h => ?_) (fun cdv A outer s H vs Q E hr h => ?_), g, F.kp, F.binds fun _ _ _ _ _ _ us hl => match us, hl with | [_], _ => rfl⟩
  · obtain ⟨n, x, rfl, _⟩ := h
    rfl
  · obtain ⟨n, x, rfl, hP, hn, hn2, q⟩ := h
    refine ⟨_, (pss_cons (ps_expr (pe_c c_asked_ring hr (by decide) (by rfl) (pa_cons (pv 0) pa_nil))) (pss_cons (ps_set (i := 1) sc_settled.nd rfl (Or.inl rfl) (pe_callB (call_min2 rfl) (by rfl) B.min bt_min (pa_cons (pe_m1 PySem.F.slot_str_count PySem.F.type_str_count mt_count (pv 0) pe_str) (pa_cons (pe_m1 PySem.F.slot_str_count PySem.F.type_str_count mt_count (pv 0) pe_str) pa_nil)))) (pss_cons (ps_set (i := 2) sc_settled.nd rfl (Or.inl rfl) (pv 0)) (pss_cons (ps_set (i := 3) sc_settled.nd rfl (Or.inl rfl) pe_int) (pss_cons (ps_while PassesOwn.never (pt_cmpR op_lt (pe_c c_flow_of hr (by decide) (by rfl) (pa_cons (pv 2) pa_nil)) (pv 1) rfl) (pss_cons (ps_set (i := 2) sc_settled.nd rfl (Or.inl rfl) (pe_c c_moved hr (by decide) (by rfl) (pa_cons (pv 2) pa_nil))) (pss_one (ps_set (i := 3) sc_settled.nd rfl (Or.inl rfl) (pe_op op_add (pv 3) pe_int))))) (pss_one (ps_ret (pv 3)))))))), ?_⟩
    refine ⟨_, rfl, n, x, rfl, hn, hn2, ?_⟩
    refine ⟨_, rfl, ⟨_, rfl⟩, _, _, rfl, rfl, _, rfl, ⟨_, rfl⟩, _, _, rfl, rfl, _, _, rfl, ?_⟩
    have em : (if Txt.count (tx n x) ("." : Str) < Txt.count (tx n x) ("c" : Str) then Txt.count (tx n x) ("." : Str) else Txt.count (tx n x) ("c" : Str)) = ((most n x : Nat) : Int) := by
      rw [count_c, count_d]
      unfold most
      split <;> omega
    refine ⟨_, rfl, ?_⟩
    refine ⟨fun z σ H' => ∃ k : Nat, z = n - k ∧ k ≤ n / 2 ∧ σ = [some (.str (tx n x)), some (.int ((most n x : Nat) : Int)), some (.str (tx n (its x k))), some (.int (k : Int))] ∧ Same H H' ∧ ∀ j, j < k → flw n (its x j) < most n x, ⟨_, 0, rfl, Nat.zero_le _, by rw [← em]; rfl, Same.refl _, fun j hj => absurd hj (Nat.not_lt_zero j)⟩, fun z σ H' hz => ?_⟩
    obtain ⟨k, rfl, hk, rfl, sm, hj⟩ := hz
    refine ⟨_, rfl, n, its x k, rfl, hP.its k, hn, hn2, _, rfl, _, _, rfl, rfl, _, rfl, ?_⟩
    refine ite2 (fun e => ?_) (fun e => ?_)
    · have e1 := of_decide_eq_true e
      have hlt : k < n / 2 := by
        refine Classical.byContradiction fun z => ?_
        have := flw_settled hP hn (t := k) (by omega)
        omega
      refine ⟨fun σ' H' => ∃ k' : Nat, n - k' < n - k ∧ k' ≤ n / 2 ∧ σ' = [some (.str (tx n x)), some (.int ((most n x : Nat) : Int)), some (.str (tx n (its x k'))), some (.int (k' : Int))] ∧ Same H H' ∧ ∀ j, j < k' → flw n (its x j) < most n x, fun σ' H' h => by
        obtain ⟨k', h1, h2⟩ := h
        exact ⟨n - k', h1, k', rfl, h2⟩, ?_⟩
      refine ⟨_, rfl, n, its x k, rfl, hP.its k, hn, hn2, fun H4 s4 => ?_⟩
      refine ⟨_, rfl, _, _, rfl, rfl, k + 1, by omega, by omega, rfl, sm.trans s4, fun j h => ?_⟩
      by_cases ej : j = k
      · subst ej
        omega
      · exact hj j (by omega)
    · have e1 : ¬ ((flw n (its x k) : Nat) : Int) < ((most n x : Nat) : Int) := fun z => e (decide_eq_true z)
      have hle := flw_le (hP.its k)
      rw [most_its hP] at hle
      exact ⟨_, rfl, q k _ sm hk (by omega) hj⟩
/-! ### exchanged -/
abbrev s_exchanged : Stmt := topS 35
theorem sc_exchanged : FnScope ["ring", "sign"] ["ring"] (defScope s_exchanged) := ⟨rfl, rfl, rfl, by decide +kernel, rfl, by decide +kernel, by decide +kernel⟩
def spExch : Sp := spRing1 fun n x => .str (tx n (exch (n - 1) x))
theorem cal_exchanged {f : Addr} {fd : FuncData} (F : Fun K "exchanged" "exchanged" s_exchanged f fd) (g : mg "exchanged" = some (.ref f)) (B : Blt mg) (c_asked_ring : Cal P w K mg base 1 "asked_ring" spAskedRing) : Cal P w K mg base 2 "exchanged" spExch := by
  refine ⟨f, fd, ["ring"], F.ok sc_exchanged (fun vs H Q E h => ?_) (fun cdv A outer s H vs Q E hr h => ?_), g, F.kp, F.binds fun _ _ _ _ _ _ us hl => match us, hl with | [_], _ => rfl⟩
  · obtain ⟨n, x, rfl, _⟩ := h
    rfl
  · obtain ⟨n, x, rfl, hP, hn, hn2, q⟩ := h
    refine ⟨_, (pss_cons (ps_expr (pe_c c_asked_ring hr (by decide) (by rfl) (pa_cons (pv 0) pa_nil))) (pss_one (ps_ret (pe_join pe_str (pe_lc (own := [("sign", 1)]) (g := gName 1) (tt := tYes) rfl sc_exchanged.nd (pi_str (pe_revS (pv 0))) (blkOk_by (own := [("sign", 1)]) (N := ["ring", "sign"]) (sc := defScope s_exchanged) (by decide +kernel)) (fun _ _ _ _ _ => (pg_name (i := 1) sc_exchanged.nd rfl (Or.inl rfl))) (fun _ _ _ _ _ => pts_nil) (fun _ _ _ _ _ => (pe_ifExp (pt_cmpR op_eq (pv 1) pe_str rfl) pe_str pe_str))))))), ?_⟩
    refine ⟨_, rfl, n, x, rfl, hn, hn2, ?_⟩
    let z : Int → Bool := fun p => x (n - 1 - p)
    refine ⟨⟨_, rfl⟩, _, rfl, tx n x, rfl, tx_fits hn2, tx n z, by rw [tx_rev], fun D hD => lc_fun (walk_signs (n := n) tx_size) (fun i => V.str (one (exch (n - 1) x (i : Nat)))) (by omega) hD (fun _ _ => trivial) (fun i v H2 H3 hi sm y Q' R' q' => ?_) (fun H2 s2 e2 => ?_)⟩
    · obtain ⟨rfl, c, ec, rfl⟩ := y
      have ec := (tx_get (x := z) hi).symm.trans ec
      cases ec
      refine ⟨rfl, _, rfl, rfl, _, rfl, ?_⟩
      have qq := q' H3 (Same.refl _)
      have ez : exch (n - 1) x (i : Nat) = !(z i) := rfl
      rw [ez] at qq
      refine ite2 (fun e => ?_) (fun e => ?_)
      · have ex : z i = true := (is_c (z i)).symm.trans e
        rw [ex] at qq
        show Q' (.str ("." : Str)) H3
        rw [← one_d]
        exact qq
      · have ex : z i = false := by
          cases u : z i with
          | false => rfl
          | true => exact absurd ((is_c (z i)).trans u) e
        rw [ex] at qq
        show Q' (.str ("c" : Str)) H3
        rw [← one_c]
        exact qq
    · rw [← ones_V] at e2
      refine ⟨_, D, onesL n (exch (n - 1) x), rfl, rfl, .inl (SqL.of e2), ?_, ?_⟩
      · have := ones_sum (n := n) (x := exch (n - 1) x)
        exact Nat.le_trans (Nat.le_of_eq this) (by omega)
      · have : Q (.str (tx n (exch (n - 1) x))) H2 := q _ s2
        rw [← join_ones] at this
        exact this
end
end JR

namespace JR
open PySem PySem.Spec PyProof.Rows L2
/-! ### own errors, defs that raise -/
theorem bt_ValueError : bootBuiltins "ValueError" = some (.type "ValueError") := by decide +kernel
structure ErrC (K : PySem.W.Frag) (mg : Str → Option Value) (nm : Str) (C : Addr) : Prop where
  g : mg nm = some (.ref C)
  xn : PySem.W.excIn K C [.type "ValueError", .type "Exception", .type "BaseException", .type "object"] "ValueError.__new__" = true
  k : PySem.W.keepIn K (.ref C) = true
  b : PySem.W.subIn K (.ref C) (.type "BaseException") = some true
  t : PySem.W.typeIn K (.ref C) = some (.type "type")
structure CalAt (P : Program) (w : World) (K : PySem.W.Frag) (mg : Str → Option Value) (base : Heap) (k : Nat) (f : Addr) (x : Str) (sp : Sp) : Prop where
  fn : ∃ (fd : FuncData) (ps : List Str), FnOk P w K mg base (L2.CX P w) k f fd ps sp ∧ PySem.W.keepIn K (.ref f) = true ∧ Binds K fd ps []
  g : mg x = some (.ref f)
section
variable {X : Cx} {k j : Nat} {f : Addr} {x : Str} {sp : Sp} {p pos : Pos} {e fe : Expr} {es : List Expr} {t : TA} {tf : TE} {E : XK} {W : WX}
theorem pe_cx (c : CalAt X.prog X.w X.K X.mg X.base k f x sp) (hr : Room j X.A) (hk : k ≤ j) (hg : Gl X x) (hx : Passes (L2.CX X.prog X.w) X E) (ha : PA X (e :: es) t)
    (hdb : (x == ("__debug__" : Str)) = false := by decide) (he : starEach (e :: es) X.env = (false, eval e X.env) :: starEach es X.env := by rfl) (hpl : (backTo pos (starEach es X.env)).any (·.1) = false := by rfl) :
    PE X (.Call (.Name x p) (e :: es) [] pos) (tCall sp [] E t) := by
  obtain ⟨fd, ps, F, kp, b⟩ := c.fn
  exact pe_call F (hr.mono hk) hg c.g kp b .nil hx ha hdb he hpl
theorem pe_cxS (c : CalAt X.prog X.w X.K X.mg X.base k f x sp) (hr : Room j X.A) (hk : k ≤ j) (hg : Gl X x) (tk : Takes X W) (ha : PA X (e :: es) t)
    (hdb : (x == ("__debug__" : Str)) = false := by decide) (he : starEach (e :: es) X.env = (false, eval e X.env) :: starEach es X.env := by rfl) (hpl : (backTo pos (starEach es X.env)).any (·.1) = false := by rfl) :
    PE X (.Call (.Name x p) (e :: es) [] pos) (tCallS sp (WE W) t) := by
  obtain ⟨fd, ps, F, kp, b⟩ := c.fn
  exact pe_callS F (hr.mono hk) hg c.g kp b (fun σ => passAt tk σ) ha hdb he hpl
/-- fs[i](x, ..): one of some defs, all of one promise -/
def tCallOf (S : Addr → Prop) (sp : Sp) (E : XK) (tf : TE) (t : TA) : TE := fun σ H Q => tf σ H fun v H1 => ∃ f, v = .ref f ∧ S f ∧ t σ H1 fun vs H2 => sp vs H2 Q E
theorem pe_co {S : Addr → Prop} (hF : ∀ f, S f → ∃ (k : Nat) (x : Str), k ≤ j ∧ CalAt X.prog X.w X.K X.mg X.base k f x sp) (hr : Room j X.A) (hf : PE X fe tf) (hx : Passes (L2.CX X.prog X.w) X E) (ha : PA X (e :: es) t)
    (hc : eval (.Call fe (e :: es) [] pos) X.env = (do callWith pos (← eval fe X.env) [] (backTo pos (starEach (e :: es) X.env)) (backToKw pos (keywordEach [] X.env))) := by rfl)
    (he : starEach (e :: es) X.env = (false, eval e X.env) :: starEach es X.env := by rfl) (hpl : (backTo pos (starEach es X.env)).any (·.1) = false := by rfl) :
    PE X (.Call fe (e :: es) [] pos) (tCallOf S sp E tf t) := by
  refine ⟨fun pins s σ H Q I h => ?_⟩
  refine Call_ (thn (hf.run pins s σ H _ I h) fun u s1 ⟨v, H1, I1, r1, f, ev, hs, q⟩ => ?_) hc
  subst ev
  obtain rfl : u = Value.ref f := r1
  obtain ⟨k, x, hk, c⟩ := hF f hs
  obtain ⟨fd, ps, F, kp, b⟩ := c.fn
  refine PySem.W.callWith_K (h₀ := X.base) I1.ok.mod.kin kp (thn (ha.run pos pins s1 σ H1 _ I1 q) fun us s2 ⟨vs, H2, I2, r, q2⟩ => ⟨I2.kIn, ?_⟩) he hpl
  exact run_fn F (hr.mono hk) b .nil hx I2 r (by rw [List.append_nil]; exact q2)
end
/-- isinstance(error, C) in the suite that holds it -/
def rIsX (K : PySem.W.Frag) (cls : Value) (d : Option Addr) (a : Addr) : List V → Hp → VK → Prop := fun xs H Q => ∃ D : Addr, cls = .ref D ∧ d = none ∧ ExcC K D ∧ rIsE K D a xs H Q
theorem call_isX {K : PySem.W.Frag} {X : Cx} {a : Addr} {oe : Obj} {cls : Value} {d : Option Addr} {pn : List (Addr × Obj)} (hz : Zc cls d oe) (hf : ∃ vs, oe.data = .fields vs) (hK : X.K = K := by rfl) : CallR (X.suite a ((a, oe) :: pn)) (.builtin "isinstance") (rIsX K cls d a) := by
  subst hK
  intro pins s σ H xs us Q I r h
  obtain ⟨D, rfl, rfl, C, h⟩ := h
  exact call_isE C hz hf pins s σ H xs us Q I r h
/-! ### values by their kind -/
inductive Knd (H : Hp) : V → String → Prop where
  | non : Knd H .non "NoneType"
  | bl (b : Bool) : Knd H (.bl b) "bool"
  | int (i : Int) : Knd H (.int i) "int"
  | str (z : Str) : Knd H (.str z) "str"
  | tup {a : Addr} {xs : List V} : H a = some (.tup xs) → Knd H (.ref a) "tuple"
  | lst {a : Addr} {xs : List V} : H a = some (.lst xs) → Knd H (.ref a) "list"
theorem Knd.ty {K : PySem.W.Frag} {H : Hp} {x : V} {T : String} (h : Knd H x T) : TyX K H x (.type T) := by
  cases h with
  | non => exact .base .non
  | bl b => exact .base (.bl b)
  | int i => exact .base (.int i)
  | str z => exact .base (.str z)
  | tup e => exact .base (.tup e)
  | lst e => exact .base (.lst e)
theorem Knd.num {H : Hp} {x : V} {T : String} (h : Knd H x T) : T ∈ numT := by
  cases h <;> decide
theorem Knd.same {H H' : Hp} {x : V} {T : String} (h : Knd H x T) (s : Same H H') : Knd H' x T := by
  cases h with
  | non => exact .non
  | bl b => exact .bl b
  | int i => exact .int i
  | str z => exact .str z
  | tup e => exact .tup (s _ _ e)
  | lst e => exact .lst (s _ _ e)
theorem kit_list {K : PySem.W.Frag} {T : String} (h : T ∈ numT) : PySem.W.kitOne K (.type T) (.type "list") = some (decide (T = "list")) := by
  simp only [numT, List.mem_cons, List.not_mem_nil, or_false] at h
  rcases h with h | h | h | h | h | h <;> (subst h; exact kit_ty (by decide +kernel))
theorem kit_str {K : PySem.W.Frag} {T : String} (h : T ∈ numT) : PySem.W.kitOne K (.type T) (.type "str") = some (decide (T = "str")) := by
  simp only [numT, List.mem_cons, List.not_mem_nil, or_false] at h
  rcases h with h | h | h | h | h | h <;> (subst h; exact kit_ty (by decide +kernel))
/-- no cars -/
def BadC (H : Hp) (x : V) : Prop := (∃ T, Knd H x T ∧ T ≠ "list") ∨ (∃ (a : Addr) (y : V) (T : String), x = .ref a ∧ H a = some (.lst [y]) ∧ (∀ H', Knd H' y T) ∧ T ≠ "int") ∨
  ∃ (a : Addr) (n : Nat) (c : Nat → Int), x = .ref a ∧ H a = some (.lst (iL n c)) ∧ n ≤ 1000 ∧ ∃ i, i + 1 < n ∧ c (i + 1) ≤ c i
theorem BadC.same {H H' : Hp} {x : V} (h : BadC H x) (s : Same H H') : BadC H' x := by
  rcases h with ⟨T, k, e⟩ | ⟨a, y, T, rfl, e, k⟩ | ⟨a, n, c, rfl, e, k⟩
  · exact .inl ⟨T, k.same s, e⟩
  · exact .inr (.inl ⟨a, y, T, rfl, s _ _ e, k⟩)
  · exact .inr (.inr ⟨a, n, c, rfl, s _ _ e, k⟩)
/-- no whole number that keeps p -/
def BadN (H : Hp) (x : V) (p : Int → Prop) : Prop := (∃ T, Knd H x T ∧ T ≠ "int") ∨ ∃ i, x = .int i ∧ ¬ p i
theorem BadN.same {H H' : Hp} {x : V} {p : Int → Prop} (h : BadN H x p) (s : Same H H') : BadN H' x p := by
  rcases h with ⟨T, k, e⟩ | h
  · exact .inl ⟨T, k.same s, e⟩
  · exact .inr h
/-- no ring -/
def BadR (H : Hp) (x : V) : Prop := (∃ T, Knd H x T ∧ T ≠ "str") ∨ ∃ z : Str, x = .str z ∧ z.length ≤ sizeLine ∧ (Txt.stripChars z ("c." : Str) ≠ ("" : Str) ∨ (Txt.stripChars z ("c." : Str) = ("" : Str) ∧ z = ("" : Str)))
theorem BadR.same {H H' : Hp} {x : V} (h : BadR H x) (s : Same H H') : BadR H' x := by
  rcases h with ⟨T, k, e⟩ | h
  · exact .inl ⟨T, k.same s, e⟩
  · exact .inr h
theorem bls_some {n : Nat} {b : Nat → Bool} (h : ∃ i, i < n ∧ b i = true) : (bls n b).any id = true := by
  obtain ⟨i, hi, e⟩ := h
  exact List.any_eq_true.mpr ⟨b i, List.mem_map.mpr ⟨i, List.mem_range.mpr hi, rfl⟩, e⟩
theorem bls_not {n : Nat} {b : Nat → Bool} (h : ∃ i, i < n ∧ b i = false) : (bls n b).all id = false := by
  obtain ⟨i, hi, e⟩ := h
  cases q : (bls n b).all id with
  | false => rfl
  | true =>
    have := List.all_eq_true.mp q (b i) (List.mem_map.mpr ⟨i, List.mem_range.mpr hi, rfl⟩)
    rw [show id (b i) = b i from rfl, e] at this
    cases this
section
variable {P : Program} {w : World} {K : PySem.W.Frag} {mg : Str → Option Value} {base : Heap}
/-! ### the four asked_ -/
def spBadCars (C : Addr) (m : Nat) : Sp := fun vs H _ E => ∃ (x : V) (rest : List V), vs = x :: rest ∧ rest.length = m ∧ BadC H x ∧ ∀ H', Same H H' → E (.ref C) none H'
theorem x_asked_cars {f C : Addr} {fd : FuncData} (E_BadCars : ErrC K mg "BadCars" C) (F : Fun K "asked_cars" "asked_cars" s_asked_cars f fd) (g : mg "asked_cars" = some (.ref f)) (B : Blt mg) (c_is_number : Cal P w K mg base 1 "is_number" (spIsNumber K)) : CalAt P w K mg base 2 f "asked_cars" (spBadCars C 0) := by
  refine ⟨⟨fd, ["cars"], F.okX sc_asked_cars (fun vs H Q E h => ?_) (fun cdv A outer s H vs Q E hr h => ?_), F.kp, F.binds fun _ _ _ _ _ _ us hl => match us, hl with | [_], _ => rfl⟩, g⟩
  · obtain ⟨x, rest, rfl, hl, _⟩ := h
    show rest.length + 1 = 1
    omega
  · obtain ⟨x, rest, rfl, hl, hb, q⟩ := h
    have er := List.eq_nil_of_length_eq_zero hl
    subst er
    refine ⟨_, (pss_cons (ps_if (PW.pt (pw_or (pt_not (pt_val (pe_callB (isiK K) (by rfl) B.isinstance bt_isinstance (pa_cons (pv 0) (pa_cons (pe_ty (by rfl) B.list bt_list) pa_nil))))) (pw_or1 (pt_not (pt_val (pe_callB (allK K rfl) (by rfl) B.all bt_all (pa_cons (pe_lc (own := [("car", 1)]) (g := gName 1) (tt := tYes) rfl sc_asked_cars.nd (pi_list (pv 0)) (blkOk_by (own := [("car", 1)]) (N := ["cars", "car", "at"]) (sc := defScope s_asked_cars) (by decide +kernel)) (fun _ _ _ _ _ => (pg_name (i := 1) sc_asked_cars.nd rfl (Or.inl rfl))) (fun _ _ _ _ _ => pts_nil) (fun _ _ _ _ _ => (pe_c c_is_number hr (by decide) (by rfl) (pa_cons (pv 1) pa_nil)))) pa_nil))))))) (pss_one (ps_raise rfl (takes_of rfl rfl rfl rfl) (pmk_own PySem.F.excBase_ValueError E_BadCars.xn E_BadCars.g E_BadCars.k (raises_own E_BadCars.b E_BadCars.t) (by rfl)))) pss_nil) (pss_one (ps_if (pt_val (pe_callB (anyK K rfl) (by rfl) B.any bt_any (pa_cons (pe_lc (own := [("at", 2)]) (g := gName 2) (tt := tYes) rfl sc_asked_cars.nd (pi_range1 rfl B.range (pa_cons (pe_op op_sub (pe_callB (lenK K) (by rfl) B.len bt_len (pa_cons (pv 0) pa_nil)) pe_int) pa_nil)) (blkOk_by (own := [("at", 2)]) (N := ["cars", "car", "at"]) (sc := defScope s_asked_cars) (by decide +kernel)) (fun _ _ _ _ _ => (pg_name (i := 2) sc_asked_cars.nd rfl (Or.inl rfl))) (fun _ _ _ _ _ => pts_nil) (fun _ _ _ _ _ => (pe_cmpR op_ge (pe_ix (ixlK K) (pv 0) (pv 2) (fun _ _ => rfl)) (pe_ix (ixlK K) (pv 0) (pe_op op_add (pv 2) pe_int) (fun _ _ => rfl)) rfl))) pa_nil))) (pss_one (ps_raise rfl (takes_of rfl rfl rfl rfl) (pmk_own PySem.F.excBase_ValueError E_BadCars.xn E_BadCars.g E_BadCars.k (raises_own E_BadCars.b E_BadCars.t) (by rfl)))) pss_nil))), ?_⟩
    rcases hb with ⟨T, k, hne⟩ | ⟨a, y, T, rfl, hS, k, hne⟩ | ⟨a, n, c, rfl, hS, hn, bad⟩
    · refine ⟨x, rfl, x, .ty "list", .type T, .type "list", _, rfl, .ty _, k.ty, kit_list k.num, _, rfl, ?_⟩
      rw [decide_eq_false hne]
      exact q _ (Same.refl _)
    · refine ⟨.ref a, rfl, .ref a, .ty "list", .type "list", .type "list", true, rfl, .ty _, ty_list (SqL.of hS), kit_ty (by decide +kernel), true, rfl, iteF ?_⟩
      refine ⟨.ref a, rfl, a, rfl, ⟨_, SqL.of hS⟩, fun D hD => lc_fun (walk_list (xs := [y])) (fun _ => V.bl (decide (T = "int"))) (show 1 ≤ 100000 by decide) hD (fun H s => SqL.of (s _ _ hS)) (fun i x H1 H2 hi s y' Q' R' q' => ?_) (fun H1 s1 e1 => ?_)⟩
      · obtain ⟨rfl, hx⟩ := y'
        have hi : i < 1 := hi
        have e0 : i = 0 := by omega
        subst e0
        cases hx
        exact ⟨rfl, _, rfl, y, T, rfl, (k _).ty, (k H).num, q' _ (Same.refl _)⟩
      · refine ⟨D, bls 1 fun _ => decide (T = "int"), rfl, SqL.of (by rw [e1, bls_V]; rfl), _, rfl, ?_⟩
        rw [bls_not ⟨0, Nat.zero_lt_one, decide_eq_false hne⟩]
        exact q _ s1
    · have hS := SqL.of (K := K) hS
      refine ⟨.ref a, rfl, .ref a, .ty "list", .type "list", .type "list", true, rfl, .ty _, ty_list hS, kit_ty (by decide +kernel), true, rfl, iteF ?_⟩
      refine ⟨.ref a, rfl, a, rfl, ⟨_, hS⟩, fun D hD => lc_fun (walk_iL (n := n) (c := c)) (fun _ => V.bl true) (by omega) hD (fun H s => s.seq hS) (fun i x H1 H2 hi s y Q' R' q' => ?_) (fun H1 s1 e1 => ?_)⟩
      · obtain ⟨rfl, rfl⟩ := y
        exact ⟨rfl, _, rfl, .int (c i), "int", rfl, .base (.int (c i)), by decide, q' _ (Same.refl _)⟩
      · refine ⟨D, bls n fun _ => true, rfl, SqL.of (by rw [e1, bls_V]), _, rfl, ?_⟩
        rw [bls_all fun _ _ => rfl]
        refine iteF ?_
        have hS1 := s1.seq hS
        refine ⟨.ref a, rfl, a, iL n c, rfl, .inl hS1, _, _, rfl, rfl, (n : Int) - 1, by rw [iL_len], by omega, by omega, fun D2 hD2 => lc_fun walk_range (fun i => V.bl (decide (c (i + 1) ≤ c i))) (by omega) hD2 (fun _ _ => trivial) (fun i x H2 H3 hi s y Q' R' q' => ?_) (fun H2 s2 e2 => ?_)⟩
        · obtain ⟨rfl, rfl⟩ := y
          have hS2 := s.seq hS1
          have h1 : i + 1 < n := by omega
          exact ⟨rfl, _, rfl, _, rfl, _, _, _, _, rfl, rfl, hS2, iL_at (i := i) (by omega) (by omega), _, rfl, _, rfl, _, _, rfl, rfl, _, _, _, _, rfl, rfl, hS2, iL_at (i := i + 1) (by omega) h1, _, _, rfl, rfl, q' _ (Same.refl _)⟩
        · refine ⟨D2, bls ((n : Int) - 1).toNat fun i => decide (c (i + 1) ≤ c i), rfl, SqL.of (by rw [e2, bls_V]), _, rfl, ?_⟩
          obtain ⟨i, hi, hc⟩ := bad
          rw [bls_some ⟨i, by omega, decide_eq_true hc⟩]
          exact q _ (s1.trans s2)
/-! asked_car -/
abbrev s_asked_car : Stmt := topS 11
theorem sc_asked_car : FnScope ["cars", "car", "least"] ["cars", "car", "least"] (defScope s_asked_car) := ⟨rfl, rfl, rfl, by decide +kernel, rfl, by decide +kernel, by decide +kernel⟩
def spAskedCar (K : PySem.W.Frag) : Sp := fun vs H Q _ => ∃ (a : Addr) (n : Nat) (c : Nat → Int) (i m : Int), vs = [.ref a, .int i, .int m] ∧ SqL K H a (iL n c) ∧ 0 ≤ i ∧ i < (n : Int) - m ∧ Q .non H
theorem cal_asked_car {f : Addr} {fd : FuncData} (F : Fun K "asked_car" "asked_car" s_asked_car f fd) (g : mg "asked_car" = some (.ref f)) (B : Blt mg) (c_is_number : Cal P w K mg base 1 "is_number" (spIsNumber K)) : Cal P w K mg base 2 "asked_car" (spAskedCar K) := by
  refine ⟨f, fd, ["cars", "car", "least"], F.ok sc_asked_car (fun vs H Q E h => ?_) (fun cdv A outer s H vs Q E hr h => ?_), g, F.kp, F.binds fun _ _ _ _ _ _ us hl => match us, hl with | [_, _, _], _ => rfl⟩
  · obtain ⟨a, n, c, i, m, rfl, _⟩ := h
    rfl
  · obtain ⟨a, n, c, i, m, rfl, hS, h0, h1, q⟩ := h
    refine ⟨_, (pss_one (ps_if (PW.pt (pw_or (pt_not (pt_val (pe_c c_is_number hr (by decide) (by rfl) (pa_cons (pv 1) pa_nil)))) (pw_or1 (pt_not (pt_chain op_le op_lt pe_int (pv 1) (pe_op op_sub (pe_callB (lenK K) (by rfl) B.len bt_len (pa_cons (pv 0) pa_nil)) (pv 2))))))) pss_never pss_nil)), ?_⟩
    refine ⟨_, rfl, .int i, "int", rfl, .base (.int i), by decide, _, rfl, iteF ?_⟩
    refine ⟨_, rfl, _, _, rfl, rfl, _, rfl, ?_⟩
    rw [decide_eq_true h0]
    refine ⟨_, rfl, a, _, rfl, .inl hS, _, rfl, _, _, rfl, rfl, _, _, rfl, rfl, _, rfl, ?_⟩
    rw [decide_eq_true (show i < ((iL n c).length : Int) - m by rw [iL_len]; exact h1)]
    exact q
def spBadCar (K : PySem.W.Frag) (C : Addr) : Sp := fun vs H _ E => ∃ (a : Addr) (n : Nat) (c : Nat → Int) (x : V) (m : Int), vs = [.ref a, x, .int m] ∧ SqL K H a (iL n c) ∧ BadN H x (fun i => 0 ≤ i ∧ i < (n : Int) - m) ∧ E (.ref C) none H
theorem x_asked_car {f C : Addr} {fd : FuncData} (E_BadCar : ErrC K mg "BadCar" C) (F : Fun K "asked_car" "asked_car" s_asked_car f fd) (g : mg "asked_car" = some (.ref f)) (B : Blt mg) (c_is_number : Cal P w K mg base 1 "is_number" (spIsNumber K)) : CalAt P w K mg base 2 f "asked_car" (spBadCar K C) := by
  refine ⟨⟨fd, ["cars", "car", "least"], F.okX sc_asked_car (fun vs H Q E h => ?_) (fun cdv A outer s H vs Q E hr h => ?_), F.kp, F.binds fun _ _ _ _ _ _ us hl => match us, hl with | [_, _, _], _ => rfl⟩, g⟩
  · obtain ⟨a, n, c, x, m, rfl, _⟩ := h
    rfl
  · obtain ⟨a, n, c, x, m, rfl, hS, hb, q⟩ := h
    refine ⟨_, (pss_one (ps_if (PW.pt (pw_or (pt_not (pt_val (pe_c c_is_number hr (by decide) (by rfl) (pa_cons (pv 1) pa_nil)))) (pw_or1 (pt_not (pt_chain op_le op_lt pe_int (pv 1) (pe_op op_sub (pe_callB (lenK K) (by rfl) B.len bt_len (pa_cons (pv 0) pa_nil)) (pv 2))))))) (pss_one (ps_raise rfl (takes_of rfl rfl rfl rfl) (pmk_own PySem.F.excBase_ValueError E_BadCar.xn E_BadCar.g E_BadCar.k (raises_own E_BadCar.b E_BadCar.t) (by rfl)))) pss_nil)), ?_⟩
    rcases hb with ⟨T, k, hne⟩ | ⟨i, rfl, hb⟩
    · refine ⟨_, rfl, x, T, rfl, k.ty, k.num, _, rfl, ?_⟩
      rw [decide_eq_false hne]
      exact q
    · refine ⟨_, rfl, .int i, "int", rfl, .base (.int i), by decide, _, rfl, iteF ?_⟩
      refine ⟨_, rfl, _, _, rfl, rfl, _, rfl, ?_⟩
      refine ite2 (fun e => ?_) (fun e => ?_)
      · have h0 : 0 ≤ i := of_decide_eq_true e
        refine ⟨_, rfl, a, _, rfl, .inl hS, _, rfl, _, _, rfl, rfl, _, _, rfl, rfl, _, rfl, ?_⟩
        rw [decide_eq_false (show ¬ i < ((iL n c).length : Int) - m by rw [iL_len]; exact fun z => hb ⟨h0, z⟩)]
        exact q
      · exact ⟨_, rfl, q⟩
/-! asked_steps -/
def spBadSteps (C : Addr) : Sp := fun vs H _ E => ∃ x : V, vs = [x] ∧ BadN H x (fun i => 0 ≤ i) ∧ E (.ref C) none H
theorem x_asked_steps {f C : Addr} {fd : FuncData} (E_BadSteps : ErrC K mg "BadSteps" C) (F : Fun K "asked_steps" "asked_steps" s_asked_steps f fd) (g : mg "asked_steps" = some (.ref f)) (B : Blt mg) (c_is_number : Cal P w K mg base 1 "is_number" (spIsNumber K)) : CalAt P w K mg base 2 f "asked_steps" (spBadSteps C) := by
  refine ⟨⟨fd, ["steps"], F.okX sc_asked_steps (fun vs H Q E h => ?_) (fun cdv A outer s H vs Q E hr h => ?_), F.kp, F.binds fun _ _ _ _ _ _ us hl => match us, hl with | [_], _ => rfl⟩, g⟩
  · obtain ⟨x, rfl, _⟩ := h
    rfl
  · obtain ⟨x, rfl, hb, q⟩ := h
    refine ⟨_, (pss_one (ps_if (PW.pt (pw_or (pt_not (pt_val (pe_c c_is_number hr (by decide) (by rfl) (pa_cons (pv 0) pa_nil)))) (pw_or1 (pt_cmpR op_lt (pv 0) pe_int rfl)))) (pss_one (ps_raise rfl (takes_of rfl rfl rfl rfl) (pmk_own PySem.F.excBase_ValueError E_BadSteps.xn E_BadSteps.g E_BadSteps.k (raises_own E_BadSteps.b E_BadSteps.t) (by rfl)))) pss_nil)), ?_⟩
    rcases hb with ⟨T, k, hne⟩ | ⟨i, rfl, hb⟩
    · refine ⟨_, rfl, x, T, rfl, k.ty, k.num, _, rfl, ?_⟩
      rw [decide_eq_false hne]
      exact q
    · refine ⟨_, rfl, .int i, "int", rfl, .base (.int i), by decide, _, rfl, iteF ⟨_, rfl, _, _, rfl, rfl, _, rfl, ?_⟩⟩
      rw [decide_eq_true (show i < 0 by omega)]
      exact q
/-! asked_ring -/
def spBadRing (C : Addr) (m : Nat) : Sp := fun vs H _ E => ∃ (x : V) (rest : List V), vs = x :: rest ∧ rest.length = m ∧ BadR H x ∧ E (.ref C) none H
theorem x_asked_ring {f C : Addr} {fd : FuncData} (E_BadRing : ErrC K mg "BadRing" C) (F : Fun K "asked_ring" "asked_ring" s_asked_ring f fd) (g : mg "asked_ring" = some (.ref f)) (B : Blt mg) : CalAt P w K mg base 1 f "asked_ring" (spBadRing C 0) := by
  refine ⟨⟨fd, ["ring"], F.okX sc_asked_ring (fun vs H Q E h => ?_) (fun cdv A outer s H vs Q E hr h => ?_), F.kp, F.binds fun _ _ _ _ _ _ us hl => match us, hl with | [_], _ => rfl⟩, g⟩
  · obtain ⟨x, rest, rfl, hl, _⟩ := h
    show rest.length + 1 = 1
    omega
  · obtain ⟨x, rest, rfl, hl, hb, q⟩ := h
    have er := List.eq_nil_of_length_eq_zero hl
    subst er
    refine ⟨_, (pss_one (ps_if (PW.pt (pw_or (pt_not (pt_val (pe_callB (isiK K) (by rfl) B.isinstance bt_isinstance (pa_cons (pv 0) (pa_cons (pe_ty (by rfl) B.str bt_str) pa_nil))))) (pw_or (pt_cmpR op_ne (pe_m1 PySem.F.slot_str_strip PySem.F.type_str_strip mt_stripChars (pv 0) pe_str) pe_str rfl) (pw_or1 (pt_cmpR op_eq (pv 0) pe_str rfl))))) (pss_one (ps_raise rfl (takes_of rfl rfl rfl rfl) (pmk_own PySem.F.excBase_ValueError E_BadRing.xn E_BadRing.g E_BadRing.k (raises_own E_BadRing.b E_BadRing.t) (by rfl)))) pss_nil)), ?_⟩
    rcases hb with ⟨T, k, hne⟩ | ⟨z, rfl, hz, hb⟩
    · refine ⟨_, rfl, x, .ty "str", .type T, .type "str", _, rfl, .ty _, k.ty, kit_str k.num, _, rfl, ?_⟩
      rw [decide_eq_false hne]
      exact q
    · refine ⟨_, rfl, .str z, .ty "str", .type "str", .type "str", true, rfl, .ty _, .base (.str _), kit_ty (by decide +kernel), true, rfl, iteF ?_⟩
      refine ⟨_, rfl, ⟨_, rfl⟩, _, _, rfl, rfl, hz, rfl, _, rfl, ?_⟩
      refine ite2 (fun _ => q) (fun e => ?_)
      have e : ¬ (!decide (V.str (Txt.stripChars z ("c." : Str)) = V.str ("" : Str))) = true := e
      rcases hb with hb | ⟨_, rfl⟩
      · rw [decide_eq_false (fun y => hb (V.str.inj y))] at e
        exact absurd rfl e
      · exact ⟨_, rfl, rfl, _, rfl, q⟩
end
end JR

namespace JR
open PySem PySem.Spec PyProof.Rows L2
section
variable {P : Program} {w : World} {K : PySem.W.Frag} {mg : Str → Option Value} {base : Heap}
abbrev s_held : Stmt := topS 24
theorem sc_held : FnScope ["cars", "car", "steps", "by"] ["cars", "car", "steps"] (defScope s_held) := ⟨rfl, rfl, rfl, by decide +kernel, rfl, by decide +kernel, by decide +kernel⟩
abbrev s_touches : Stmt := topS 25
theorem sc_touches : FnScope ["cars", "car", "told", "gap", "now", "many"] ["cars", "car"] (defScope s_touches) := ⟨rfl, rfl, rfl, by decide +kernel, rfl, by decide +kernel, by decide +kernel⟩
def spBadCarD (K : PySem.W.Frag) (C : Addr) (m : Int) (r : Nat) : Sp := fun vs H _ E => ∃ (a : Addr) (n : Nat) (c : Nat → Int) (x : V) (rest : List V), vs = .ref a :: x :: rest ∧ rest.length = r ∧ SqL K H a (iL n c) ∧ Rising n c ∧ n ≤ 1000 ∧ BadN H x (fun i => 0 ≤ i ∧ i < (n : Int) - m) ∧ ∀ H', Same H H' → E (.ref C) none H'
def spAfterBad (K : PySem.W.Frag) (C : Addr) : Sp := fun vs H _ E => ∃ (a : Addr) (n : Nat) (c : Nat → Int) (y : V), vs = [.ref a, y] ∧ SqL K H a (iL n c) ∧ Rising n c ∧ n ≤ 1000 ∧ BadN H y (fun i => 0 ≤ i) ∧ ∀ H', Same H H' → E (.ref C) none H'
def spHeldBad (K : PySem.W.Frag) (C : Addr) : Sp := fun vs H _ E => ∃ (a : Addr) (n : Nat) (c : Nat → Int) (i : Int) (y : V), vs = [.ref a, .int i, y] ∧ SqL K H a (iL n c) ∧ Rising n c ∧ n ≤ 1000 ∧ 0 ≤ i ∧ i < (n : Int) - 0 ∧ BadN H y (fun i => 0 ≤ i) ∧ ∀ H', Same H H' → E (.ref C) none H'
def spRingBad (C : Addr) : Sp := fun vs H _ E => ∃ (n : Nat) (x : Int → Bool) (y : V), vs = [.str (tx n x), y] ∧ 0 < n ∧ n ≤ 1000 ∧ BadN H y (fun i => 0 ≤ i) ∧ E (.ref C) none H
theorem x1_stepped {f fa C : Addr} {fd : FuncData} (F : Fun K "stepped" "stepped" s_stepped f fd) (g : mg "stepped" = some (.ref f)) (x_asked_cars : CalAt P w K mg base 2 fa "asked_cars" (spBadCars C 0)) : CalAt P w K mg base 3 f "stepped" (spBadCars C 0) := by
  refine ⟨⟨fd, ["cars"], F.okX sc_stepped (fun vs H Q E h => ?_) (fun cdv A outer s H vs Q E hr h => ?_), F.kp, F.binds fun _ _ _ _ _ _ us hl => match us, hl with | [_], _ => rfl⟩, g⟩
  · obtain ⟨x, rest, rfl, hl, _⟩ := h
    show rest.length + 1 = 1
    omega
  · obtain ⟨x, rest, rfl, hl, hb, q⟩ := h
    have er := List.eq_nil_of_length_eq_zero hl
    subst er
    refine ⟨_, (pss_cons (ps_expr (pe_cx x_asked_cars hr (by decide) (by rfl) (passes_call (takes_of rfl rfl rfl rfl) (fun _ _ _ _ h => h)) (pa_cons (pv 0) pa_nil))) pss_never), ?_⟩
    exact ⟨_, rfl, x, [], rfl, rfl, hb, q⟩
theorem x1_delays {f fa C : Addr} {fd : FuncData} (F : Fun K "delays" "delays" s_delays f fd) (g : mg "delays" = some (.ref f)) (x_asked_cars : CalAt P w K mg base 2 fa "asked_cars" (spBadCars C 0)) : CalAt P w K mg base 3 f "delays" (spBadCars C 0) := by
  refine ⟨⟨fd, ["cars"], F.okX sc_delays (fun vs H Q E h => ?_) (fun cdv A outer s H vs Q E hr h => ?_), F.kp, F.binds fun _ _ _ _ _ _ us hl => match us, hl with | [_], _ => rfl⟩, g⟩
  · obtain ⟨x, rest, rfl, hl, _⟩ := h
    show rest.length + 1 = 1
    omega
  · obtain ⟨x, rest, rfl, hl, hb, q⟩ := h
    have er := List.eq_nil_of_length_eq_zero hl
    subst er
    refine ⟨_, (pss_cons (ps_expr (pe_cx x_asked_cars hr (by decide) (by rfl) (passes_call (takes_of rfl rfl rfl rfl) (fun _ _ _ _ h => h)) (pa_cons (pv 0) pa_nil))) pss_never), ?_⟩
    exact ⟨_, rfl, x, [], rfl, rfl, hb, q⟩
theorem x1_free_from {f fa C : Addr} {fd : FuncData} (F : Fun K "free_from" "free_from" s_free_from f fd) (g : mg "free_from" = some (.ref f)) (x_asked_cars : CalAt P w K mg base 2 fa "asked_cars" (spBadCars C 0)) : CalAt P w K mg base 3 f "free_from" (spBadCars C 0) := by
  refine ⟨⟨fd, ["cars"], F.okX sc_free_from (fun vs H Q E h => ?_) (fun cdv A outer s H vs Q E hr h => ?_), F.kp, F.binds fun _ _ _ _ _ _ us hl => match us, hl with | [_], _ => rfl⟩, g⟩
  · obtain ⟨x, rest, rfl, hl, _⟩ := h
    show rest.length + 1 = 1
    omega
  · obtain ⟨x, rest, rfl, hl, hb, q⟩ := h
    have er := List.eq_nil_of_length_eq_zero hl
    subst er
    refine ⟨_, (pss_cons (ps_expr (pe_cx x_asked_cars hr (by decide) (by rfl) (passes_call (takes_of rfl rfl rfl rfl) (fun _ _ _ _ h => h)) (pa_cons (pv 0) pa_nil))) pss_never), ?_⟩
    exact ⟨_, rfl, x, [], rfl, rfl, hb, q⟩
theorem x1_after {f fa C : Addr} {fd : FuncData} (F : Fun K "after" "after" s_after f fd) (g : mg "after" = some (.ref f)) (x_asked_cars : CalAt P w K mg base 2 fa "asked_cars" (spBadCars C 0)) : CalAt P w K mg base 3 f "after" (spBadCars C 1) := by
  refine ⟨⟨fd, ["cars", "steps"], F.okX sc_after (fun vs H Q E h => ?_) (fun cdv A outer s H vs Q E hr h => ?_), F.kp, F.binds fun _ _ _ _ _ _ us hl => match us, hl with | [_, _], _ => rfl⟩, g⟩
  · obtain ⟨x, rest, rfl, hl, _⟩ := h
    show rest.length + 1 = 2
    omega
  · obtain ⟨x, rest, rfl, hl, hb, q⟩ := h
    obtain ⟨y, rfl⟩ : ∃ y, rest = [y] := match rest, hl with | [y], _ => ⟨y, rfl⟩
    refine ⟨_, (pss_cons (ps_expr (pe_cx x_asked_cars hr (by decide) (by rfl) (passes_call (takes_of rfl rfl rfl rfl) (fun _ _ _ _ h => h)) (pa_cons (pv 0) pa_nil))) pss_never), ?_⟩
    exact ⟨_, rfl, x, [], rfl, rfl, hb, q⟩
theorem x1_held {f fa C : Addr} {fd : FuncData} (F : Fun K "held" "held" s_held f fd) (g : mg "held" = some (.ref f)) (x_asked_cars : CalAt P w K mg base 2 fa "asked_cars" (spBadCars C 0)) : CalAt P w K mg base 3 f "held" (spBadCars C 2) := by
  refine ⟨⟨fd, ["cars", "car", "steps"], F.okX sc_held (fun vs H Q E h => ?_) (fun cdv A outer s H vs Q E hr h => ?_), F.kp, F.binds fun _ _ _ _ _ _ us hl => match us, hl with | [_, _, _], _ => rfl⟩, g⟩
  · obtain ⟨x, rest, rfl, hl, _⟩ := h
    show rest.length + 1 = 3
    omega
  · obtain ⟨x, rest, rfl, hl, hb, q⟩ := h
    obtain ⟨y, z, rfl⟩ : ∃ y z, rest = [y, z] := match rest, hl with | [y, z], _ => ⟨y, z, rfl⟩
    refine ⟨_, (pss_cons (ps_expr (pe_cx x_asked_cars hr (by decide) (by rfl) (passes_call (takes_of rfl rfl rfl rfl) (fun _ _ _ _ h => h)) (pa_cons (pv 0) pa_nil))) pss_never), ?_⟩
    exact ⟨_, rfl, x, [], rfl, rfl, hb, q⟩
theorem x1_touches {f fa C : Addr} {fd : FuncData} (F : Fun K "touches" "touches" s_touches f fd) (g : mg "touches" = some (.ref f)) (x_asked_cars : CalAt P w K mg base 2 fa "asked_cars" (spBadCars C 0)) : CalAt P w K mg base 3 f "touches" (spBadCars C 1) := by
  refine ⟨⟨fd, ["cars", "car"], F.okX sc_touches (fun vs H Q E h => ?_) (fun cdv A outer s H vs Q E hr h => ?_), F.kp, F.binds fun _ _ _ _ _ _ us hl => match us, hl with | [_, _], _ => rfl⟩, g⟩
  · obtain ⟨x, rest, rfl, hl, _⟩ := h
    show rest.length + 1 = 2
    omega
  · obtain ⟨x, rest, rfl, hl, hb, q⟩ := h
    obtain ⟨y, rfl⟩ : ∃ y, rest = [y] := match rest, hl with | [y], _ => ⟨y, rfl⟩
    refine ⟨_, (pss_cons (ps_expr (pe_cx x_asked_cars hr (by decide) (by rfl) (passes_call (takes_of rfl rfl rfl rfl) (fun _ _ _ _ h => h)) (pa_cons (pv 0) pa_nil))) pss_never), ?_⟩
    exact ⟨_, rfl, x, [], rfl, rfl, hb, q⟩
theorem x2_held {f fa C : Addr} {fd : FuncData} (F : Fun K "held" "held" s_held f fd) (g : mg "held" = some (.ref f)) (c_asked_cars : Cal P w K mg base 2 "asked_cars" (spAskedCars K)) (x_asked_car : CalAt P w K mg base 2 fa "asked_car" (spBadCar K C)) : CalAt P w K mg base 3 f "held" (spBadCarD K C 0 1) := by
  refine ⟨⟨fd, ["cars", "car", "steps"], F.okX sc_held (fun vs H Q E h => ?_) (fun cdv A outer s H vs Q E hr h => ?_), F.kp, F.binds fun _ _ _ _ _ _ us hl => match us, hl with | [_, _, _], _ => rfl⟩, g⟩
  · obtain ⟨a, n, c, x, rest, rfl, hl, _⟩ := h
    show rest.length + 1 + 1 = 3
    omega
  · obtain ⟨a, n, c, x, rest, rfl, hl, hS, hR, hn, hb, q⟩ := h
    obtain ⟨y, rfl⟩ : ∃ y, rest = [y] := match rest, hl with | [y], _ => ⟨y, rfl⟩
    refine ⟨_, (pss_cons (ps_expr (pe_c c_asked_cars hr (by decide) (by rfl) (pa_cons (pv 0) pa_nil))) (pss_cons (ps_expr (pe_cx x_asked_car hr (by decide) (by rfl) (passes_call (takes_of rfl rfl rfl rfl) (fun _ _ _ _ h => h)) (pa_cons (pv 0) (pa_cons (pv 1) (pa_cons pe_int pa_nil))))) pss_never)), ?_⟩
    exact ⟨_, rfl, a, n, c, rfl, hS, hR, hn, fun H1 s1 => ⟨_, rfl, _, rfl, a, n, c, x, 0, rfl, s1.seq hS, hb.same s1, q _ s1⟩⟩
theorem x2_touches {f fa C : Addr} {fd : FuncData} (F : Fun K "touches" "touches" s_touches f fd) (g : mg "touches" = some (.ref f)) (c_asked_cars : Cal P w K mg base 2 "asked_cars" (spAskedCars K)) (x_asked_car : CalAt P w K mg base 2 fa "asked_car" (spBadCar K C)) : CalAt P w K mg base 3 f "touches" (spBadCarD K C 1 0) := by
  refine ⟨⟨fd, ["cars", "car"], F.okX sc_touches (fun vs H Q E h => ?_) (fun cdv A outer s H vs Q E hr h => ?_), F.kp, F.binds fun _ _ _ _ _ _ us hl => match us, hl with | [_, _], _ => rfl⟩, g⟩
  · obtain ⟨a, n, c, x, rest, rfl, hl, _⟩ := h
    show rest.length + 1 + 1 = 2
    omega
  · obtain ⟨a, n, c, x, rest, rfl, hl, hS, hR, hn, hb, q⟩ := h
    have er := List.eq_nil_of_length_eq_zero hl
    subst er
    refine ⟨_, (pss_cons (ps_expr (pe_c c_asked_cars hr (by decide) (by rfl) (pa_cons (pv 0) pa_nil))) (pss_cons (ps_expr (pe_cx x_asked_car hr (by decide) (by rfl) (passes_call (takes_of rfl rfl rfl rfl) (fun _ _ _ _ h => h)) (pa_cons (pv 0) (pa_cons (pv 1) (pa_cons pe_int pa_nil))))) pss_never)), ?_⟩
    exact ⟨_, rfl, a, n, c, rfl, hS, hR, hn, fun H1 s1 => ⟨_, rfl, _, rfl, a, n, c, x, 1, rfl, s1.seq hS, hb.same s1, q _ s1⟩⟩
theorem x3_after {f fa C : Addr} {fd : FuncData} (F : Fun K "after" "after" s_after f fd) (g : mg "after" = some (.ref f)) (c_asked_cars : Cal P w K mg base 2 "asked_cars" (spAskedCars K)) (x_asked_steps : CalAt P w K mg base 2 fa "asked_steps" (spBadSteps C)) : CalAt P w K mg base 3 f "after" (spAfterBad K C) := by
  refine ⟨⟨fd, ["cars", "steps"], F.okX sc_after (fun vs H Q E h => ?_) (fun cdv A outer s H vs Q E hr h => ?_), F.kp, F.binds fun _ _ _ _ _ _ us hl => match us, hl with | [_, _], _ => rfl⟩, g⟩
  · obtain ⟨a, n, c, y, rfl, _⟩ := h
    rfl
  · obtain ⟨a, n, c, y, rfl, hS, hR, hn, hb, q⟩ := h
    refine ⟨_, (pss_cons (ps_expr (pe_c c_asked_cars hr (by decide) (by rfl) (pa_cons (pv 0) pa_nil))) (pss_cons (ps_expr (pe_cx x_asked_steps hr (by decide) (by rfl) (passes_call (takes_of rfl rfl rfl rfl) (fun _ _ _ _ h => h)) (pa_cons (pv 1) pa_nil))) pss_never)), ?_⟩
    exact ⟨_, rfl, a, n, c, rfl, hS, hR, hn, fun H1 s1 => ⟨_, rfl, y, rfl, hb.same s1, q _ s1⟩⟩
theorem x3_held {f fa C : Addr} {fd : FuncData} (F : Fun K "held" "held" s_held f fd) (g : mg "held" = some (.ref f)) (c_asked_cars : Cal P w K mg base 2 "asked_cars" (spAskedCars K)) (c_asked_car : Cal P w K mg base 2 "asked_car" (spAskedCar K)) (x_asked_steps : CalAt P w K mg base 2 fa "asked_steps" (spBadSteps C)) : CalAt P w K mg base 3 f "held" (spHeldBad K C) := by
  refine ⟨⟨fd, ["cars", "car", "steps"], F.okX sc_held (fun vs H Q E h => ?_) (fun cdv A outer s H vs Q E hr h => ?_), F.kp, F.binds fun _ _ _ _ _ _ us hl => match us, hl with | [_, _, _], _ => rfl⟩, g⟩
  · obtain ⟨a, n, c, i, y, rfl, _⟩ := h
    rfl
  · obtain ⟨a, n, c, i, y, rfl, hS, hR, hn, h0, h1, hb, q⟩ := h
    refine ⟨_, (pss_cons (ps_expr (pe_c c_asked_cars hr (by decide) (by rfl) (pa_cons (pv 0) pa_nil))) (pss_cons (ps_expr (pe_c c_asked_car hr (by decide) (by rfl) (pa_cons (pv 0) (pa_cons (pv 1) (pa_cons pe_int pa_nil))))) (pss_cons (ps_expr (pe_cx x_asked_steps hr (by decide) (by rfl) (passes_call (takes_of rfl rfl rfl rfl) (fun _ _ _ _ h => h)) (pa_cons (pv 2) pa_nil))) pss_never))), ?_⟩
    exact ⟨_, rfl, a, n, c, rfl, hS, hR, hn, fun H1 s1 => ⟨_, rfl, _, rfl, a, n, c, i, 0, rfl, s1.seq hS, h0, h1, _, rfl, y, rfl, hb.same s1, q _ s1⟩⟩
theorem x3_around_after {f fa C : Addr} {fd : FuncData} (F : Fun K "around_after" "around_after" s_around_after f fd) (g : mg "around_after" = some (.ref f)) (c_asked_ring : Cal P w K mg base 1 "asked_ring" spAskedRing) (x_asked_steps : CalAt P w K mg base 2 fa "asked_steps" (spBadSteps C)) : CalAt P w K mg base 3 f "around_after" (spRingBad C) := by
  refine ⟨⟨fd, ["ring", "steps"], F.okX sc_around_after (fun vs H Q E h => ?_) (fun cdv A outer s H vs Q E hr h => ?_), F.kp, F.binds fun _ _ _ _ _ _ us hl => match us, hl with | [_, _], _ => rfl⟩, g⟩
  · obtain ⟨n, x, y, rfl, _⟩ := h
    rfl
  · obtain ⟨n, x, y, rfl, hn, hn2, hb, q⟩ := h
    refine ⟨_, (pss_cons (ps_expr (pe_c c_asked_ring hr (by decide) (by rfl) (pa_cons (pv 0) pa_nil))) (pss_cons (ps_expr (pe_cx x_asked_steps hr (by decide) (by rfl) (passes_call (takes_of rfl rfl rfl rfl) (fun _ _ _ _ h => h)) (pa_cons (pv 1) pa_nil))) pss_never)), ?_⟩
    exact ⟨_, rfl, n, x, rfl, hn, hn2, _, rfl, y, rfl, hb, q⟩
theorem x3_flow {f fa C : Addr} {fd : FuncData} (F : Fun K "flow" "flow" s_flow f fd) (g : mg "flow" = some (.ref f)) (c_flow_of : Cal P w K mg base 1 "flow_of" spFlowOf) (x_around_after : CalAt P w K mg base 3 fa "around_after" (spRingBad C)) : CalAt P w K mg base 4 f "flow" (spRingBad C) := by
  refine ⟨⟨fd, ["ring", "steps"], F.okX sc_flow (fun vs H Q E h => ?_) (fun cdv A outer s H vs Q E hr h => ?_), F.kp, F.binds fun _ _ _ _ _ _ us hl => match us, hl with | [_, _], _ => rfl⟩, g⟩
  · obtain ⟨n, x, y, rfl, _⟩ := h
    rfl
  · obtain ⟨n, x, y, rfl, hn, hn2, hb, q⟩ := h
    refine ⟨_, (pss_one (ps_ret (pe_c c_flow_of hr (by decide) (by rfl) (pa_cons (pe_cx x_around_after hr (by decide) (by rfl) (passes_call (takes_of rfl rfl rfl rfl) (fun _ _ _ _ h => h)) (pa_cons (pv 0) (pa_cons (pv 1) pa_nil))) pa_nil)))), ?_⟩
    exact ⟨_, rfl, _, rfl, n, x, y, rfl, hn, hn2, hb, q⟩
theorem x4_around {f fa C : Addr} {fd : FuncData} (F : Fun K "around" "around" s_around f fd) (g : mg "around" = some (.ref f)) (x_asked_ring : CalAt P w K mg base 1 fa "asked_ring" (spBadRing C 0)) : CalAt P w K mg base 2 f "around" (spBadRing C 0) := by
  refine ⟨⟨fd, ["ring"], F.okX sc_around (fun vs H Q E h => ?_) (fun cdv A outer s H vs Q E hr h => ?_), F.kp, F.binds fun _ _ _ _ _ _ us hl => match us, hl with | [_], _ => rfl⟩, g⟩
  · obtain ⟨x, rest, rfl, hl, _⟩ := h
    show rest.length + 1 = 1
    omega
  · obtain ⟨x, rest, rfl, hl, hb, q⟩ := h
    have er := List.eq_nil_of_length_eq_zero hl
    subst er
    refine ⟨_, (pss_cons (ps_expr (pe_cx x_asked_ring hr (by decide) (by rfl) (passes_call (takes_of rfl rfl rfl rfl) (fun _ _ _ _ h => h)) (pa_cons (pv 0) pa_nil))) pss_never), ?_⟩
    exact ⟨_, rfl, x, [], rfl, rfl, hb, q⟩
theorem x4_exchanged {f fa C : Addr} {fd : FuncData} (F : Fun K "exchanged" "exchanged" s_exchanged f fd) (g : mg "exchanged" = some (.ref f)) (x_asked_ring : CalAt P w K mg base 1 fa "asked_ring" (spBadRing C 0)) : CalAt P w K mg base 2 f "exchanged" (spBadRing C 0) := by
  refine ⟨⟨fd, ["ring"], F.okX sc_exchanged (fun vs H Q E h => ?_) (fun cdv A outer s H vs Q E hr h => ?_), F.kp, F.binds fun _ _ _ _ _ _ us hl => match us, hl with | [_], _ => rfl⟩, g⟩
  · obtain ⟨x, rest, rfl, hl, _⟩ := h
    show rest.length + 1 = 1
    omega
  · obtain ⟨x, rest, rfl, hl, hb, q⟩ := h
    have er := List.eq_nil_of_length_eq_zero hl
    subst er
    refine ⟨_, (pss_cons (ps_expr (pe_cx x_asked_ring hr (by decide) (by rfl) (passes_call (takes_of rfl rfl rfl rfl) (fun _ _ _ _ h => h)) (pa_cons (pv 0) pa_nil))) pss_never), ?_⟩
    exact ⟨_, rfl, x, [], rfl, rfl, hb, q⟩
theorem x4_settled {f fa C : Addr} {fd : FuncData} (F : Fun K "settled" "settled" s_settled f fd) (g : mg "settled" = some (.ref f)) (x_asked_ring : CalAt P w K mg base 1 fa "asked_ring" (spBadRing C 0)) : CalAt P w K mg base 2 f "settled" (spBadRing C 0) := by
  refine ⟨⟨fd, ["ring"], F.okX sc_settled (fun vs H Q E h => ?_) (fun cdv A outer s H vs Q E hr h => ?_), F.kp, F.binds fun _ _ _ _ _ _ us hl => match us, hl with | [_], _ => rfl⟩, g⟩
  · obtain ⟨x, rest, rfl, hl, _⟩ := h
    show rest.length + 1 = 1
    omega
  · obtain ⟨x, rest, rfl, hl, hb, q⟩ := h
    have er := List.eq_nil_of_length_eq_zero hl
    subst er
    refine ⟨_, (pss_cons (ps_expr (pe_cx x_asked_ring hr (by decide) (by rfl) (passes_call (takes_of rfl rfl rfl rfl) (fun _ _ _ _ h => h)) (pa_cons (pv 0) pa_nil))) pss_never), ?_⟩
    exact ⟨_, rfl, x, [], rfl, rfl, hb, q⟩
theorem x4_around_after {f fa C : Addr} {fd : FuncData} (F : Fun K "around_after" "around_after" s_around_after f fd) (g : mg "around_after" = some (.ref f)) (x_asked_ring : CalAt P w K mg base 1 fa "asked_ring" (spBadRing C 0)) : CalAt P w K mg base 2 f "around_after" (spBadRing C 1) := by
  refine ⟨⟨fd, ["ring", "steps"], F.okX sc_around_after (fun vs H Q E h => ?_) (fun cdv A outer s H vs Q E hr h => ?_), F.kp, F.binds fun _ _ _ _ _ _ us hl => match us, hl with | [_, _], _ => rfl⟩, g⟩
  · obtain ⟨x, rest, rfl, hl, _⟩ := h
    show rest.length + 1 = 2
    omega
  · obtain ⟨x, rest, rfl, hl, hb, q⟩ := h
    obtain ⟨y, rfl⟩ : ∃ y, rest = [y] := match rest, hl with | [y], _ => ⟨y, rfl⟩
    refine ⟨_, (pss_cons (ps_expr (pe_cx x_asked_ring hr (by decide) (by rfl) (passes_call (takes_of rfl rfl rfl rfl) (fun _ _ _ _ h => h)) (pa_cons (pv 0) pa_nil))) pss_never), ?_⟩
    exact ⟨_, rfl, x, [], rfl, rfl, hb, q⟩
theorem x4_flow {f fa C : Addr} {fd : FuncData} (F : Fun K "flow" "flow" s_flow f fd) (g : mg "flow" = some (.ref f)) (c_flow_of : Cal P w K mg base 1 "flow_of" spFlowOf) (x_around_after : CalAt P w K mg base 2 fa "around_after" (spBadRing C 1)) : CalAt P w K mg base 3 f "flow" (spBadRing C 1) := by
  refine ⟨⟨fd, ["ring", "steps"], F.okX sc_flow (fun vs H Q E h => ?_) (fun cdv A outer s H vs Q E hr h => ?_), F.kp, F.binds fun _ _ _ _ _ _ us hl => match us, hl with | [_, _], _ => rfl⟩, g⟩
  · obtain ⟨x, rest, rfl, hl, _⟩ := h
    show rest.length + 1 = 2
    omega
  · obtain ⟨x, rest, rfl, hl, hb, q⟩ := h
    obtain ⟨y, rfl⟩ : ∃ y, rest = [y] := match rest, hl with | [y], _ => ⟨y, rfl⟩
    refine ⟨_, (pss_one (ps_ret (pe_c c_flow_of hr (by decide) (by rfl) (pa_cons (pe_cx x_around_after hr (by decide) (by rfl) (passes_call (takes_of rfl rfl rfl rfl) (fun _ _ _ _ h => h)) (pa_cons (pv 0) (pa_cons (pv 1) pa_nil))) pa_nil)))), ?_⟩
    exact ⟨_, rfl, _, rfl, x, [y], rfl, rfl, hb, q⟩
end
end JR

namespace JR
open PySem PySem.Spec PyProof.Rows L2
theorem rests (m : Int) (q : Nat) (hq : 0 < q) {z : Int} (hz : z = (q : Int)) : ∃ k : Nat, k < q ∧ m.fmod z = (k : Int) := by
  subst hz
  exact fmod_rng m hq
/-- an item by a rest -/
theorem at_nat {xs : List V} {z : Int} {k : Nat} {v : V} (e : z = (k : Int)) (h : xs[k]? = some v) : atI xs z = some v := at_of e h
theorem bad_C : Txt.stripChars ("C" : Str) ("c." : Str) ≠ ("" : Str) := by decide +kernel
theorem bad_cx : Txt.stripChars ("c x" : Str) ("c." : Str) ≠ ("" : Str) := by decide +kernel
theorem bad_cn : Txt.stripChars ("c\n" : Str) ("c." : Str) ≠ ("" : Str) := by decide +kernel
theorem bad_nil : Txt.stripChars ("" : Str) ("c." : Str) = ("" : Str) := by decide +kernel
theorem ring_cdc : tx 3 (fun p => decide (p ≠ 1)) = ("c.c" : Str) := by decide +kernel
section
variable {P : Program} {w : World} {K : PySem.W.Frag} {mg : Str → Option Value} {base : Heap}
theorem cars129 : Rising 3 fun i => [1, 2, 9].getD i 0 := by
  intro i hi
  have : i = 0 ∨ i = 1 := by omega
  rcases this with e | e <;> (subst e; decide)
/-! ### _law_cars_asked -/
abbrev s__law_cars_asked : Stmt := topS 37
theorem sc__law_cars_asked : FnScope ["_law_which", "_law_more", "_law_bad", "_law_door"] ["_law_which", "_law_more"] (defScope s__law_cars_asked) := ⟨rfl, rfl, rfl, by decide +kernel, rfl, by decide +kernel, by decide +kernel⟩
def spAsk (C : Addr) : Sp := fun vs H _ E => ∃ wh m : Int, vs = [.int wh, .int m] ∧ 0 ≤ m ∧ ∀ H', Same H H' → E (.ref C) none H'
theorem x__law_cars_asked {f C f1 f2 f3 fa fh ft : Addr} {fd : FuncData} (F : Fun K "_law_cars_asked" "_law_cars_asked" s__law_cars_asked f fd) (g : mg "_law_cars_asked" = some (.ref f))
    (d1 : CalAt P w K mg base 3 f1 "stepped" (spBadCars C 0)) (d2 : CalAt P w K mg base 3 f2 "delays" (spBadCars C 0)) (d3 : CalAt P w K mg base 3 f3 "free_from" (spBadCars C 0))
    (x_after : CalAt P w K mg base 3 fa "after" (spBadCars C 1)) (x_held : CalAt P w K mg base 3 fh "held" (spBadCars C 2)) (x_touches : CalAt P w K mg base 3 ft "touches" (spBadCars C 1)) : CalAt P w K mg base 4 f "_law_cars_asked" (spAsk C) := by
  have hF_stepped_delays_free_from : ∀ f, (f = f1 ∨ f = f2 ∨ f = f3) → ∃ (k : Nat) (x : Str), k ≤ 3 ∧ CalAt P w K mg base k f x (spBadCars C 0) := by
    rintro f (rfl | rfl | rfl)
    · exact ⟨3, _, Nat.le_refl _, d1⟩
    · exact ⟨3, _, Nat.le_refl _, d2⟩
    · exact ⟨3, _, Nat.le_refl _, d3⟩
  have g_stepped := d1.g
  have g_delays := d2.g
  have g_free_from := d3.g
  refine ⟨⟨fd, ["_law_which", "_law_more"], F.okX sc__law_cars_asked (fun vs H Q E h => ?_) (fun cdv A outer s H vs Q E hr h => ?_), F.kp, F.binds fun _ _ _ _ _ _ us hl => match us, hl with | [_, _], _ => rfl⟩, g⟩
  · obtain ⟨wh, m, rfl, _⟩ := h
    rfl
  · obtain ⟨wh, m, rfl, hm, q⟩ := h
    refine ⟨_, (pss_cons (ps_set (i := 2) sc__law_cars_asked.nd rfl (Or.inl rfl) (pe_ix (ixlK K) (pe_lst (pa_cons pe_non (pa_cons (pe_tup (pa_cons pe_int (pa_cons pe_int pa_nil))) (pa_cons pe_str (pa_cons pe_int (pa_cons (pe_lst (pa_cons pe_bl pa_nil)) (pa_cons (pe_lst (pa_cons pe_str pa_nil)) (pa_cons (pe_lst (pa_cons pe_non pa_nil)) (pa_cons (pe_lst (pa_cons pe_int (pa_cons pe_int pa_nil))) (pa_cons (pe_lst (pa_cons (pe_op op_add pe_int (pv 1)) (pa_cons pe_int pa_nil))) (pa_cons (pe_lst (pa_cons pe_int (pa_cons pe_int (pa_cons (pe_op op_sub pe_int (pv 1)) pa_nil)))) pa_nil))))))))))) (pe_op op_modN (pv 0) pe_int) (fun _ _ => rfl))) (pss_cons (ps_set (i := 3) sc__law_cars_asked.nd rfl (Or.inl rfl) (pe_op op_modN (pe_op op_fdivN (pv 0) pe_int) pe_int)) (pss_cons (ps_if (pt_cmpR op_lt (pv 3) pe_int rfl) (pss_one (ps_ret (pe_co hF_stepped_delays_free_from hr (pe_ix (ixlK K) (pe_lst (pa_cons (pe_cls (by rfl) g_stepped) (pa_cons (pe_cls (by rfl) g_delays) (pa_cons (pe_cls (by rfl) g_free_from) pa_nil)))) (pv 3) (fun _ _ => rfl)) (passes_call (takes_of rfl rfl rfl rfl) (fun _ _ _ _ h => h)) (pa_cons (pv 2) pa_nil)))) pss_nil) (pss_cons (ps_if (pt_cmpR op_eq (pv 3) pe_int rfl) (pss_one (ps_ret (pe_cx x_after hr (by decide) (by rfl) (passes_call (takes_of rfl rfl rfl rfl) (fun _ _ _ _ h => h)) (pa_cons (pv 2) (pa_cons pe_non pa_nil))))) pss_nil) (pss_one (ps_ret (pe_ifExp (pt_cmpR op_eq (pv 3) pe_int rfl) (pe_cx x_held hr (by decide) (by rfl) (passes_call (takes_of rfl rfl rfl rfl) (fun _ _ _ _ h => h)) (pa_cons (pv 2) (pa_cons pe_non (pa_cons pe_non pa_nil)))) (pe_cx x_touches hr (by decide) (by rfl) (passes_call (takes_of rfl rfl rfl rfl) (fun _ _ _ _ h => h)) (pa_cons (pv 2) (pa_cons pe_non pa_nil)))))))))), ?_⟩
    refine ⟨(show 2 ≤ sizeLine by decide), fun t1 nt1 => ?_⟩
    have s1 := same_new (o := .tup [.int 1, .int 2]) nt1
    have e1 : upd H t1 (.tup [.int 1, .int 2]) t1 = some (.tup [.int 1, .int 2]) := upd_same
    generalize upd H t1 (.tup [.int 1, .int 2]) = H1 at s1 e1
    refine ⟨(show 1 ≤ sizeLine by decide), fun l1 n1 => ?_⟩
    have s2 := same_new (o := .lst [.bl true]) n1
    have e2 : upd H1 l1 (.lst [.bl true]) l1 = some (.lst [.bl true]) := upd_same
    generalize upd H1 l1 (.lst [.bl true]) = H2 at s2 e2
    refine ⟨(show 1 ≤ sizeLine by decide), fun l2 n2 => ?_⟩
    have s3 := same_new (o := .lst [.str ("1" : Str)]) n2
    have e3 : upd H2 l2 (.lst [.str ("1" : Str)]) l2 = some (.lst [.str ("1" : Str)]) := upd_same
    generalize upd H2 l2 (.lst [.str ("1" : Str)]) = H3 at s3 e3
    refine ⟨(show 1 ≤ sizeLine by decide), fun l3 n3 => ?_⟩
    have s4 := same_new (o := .lst [.non]) n3
    have e4 : upd H3 l3 (.lst [.non]) l3 = some (.lst [.non]) := upd_same
    generalize upd H3 l3 (.lst [.non]) = H4 at s4 e4
    refine ⟨(show 2 ≤ sizeLine by decide), fun l4 n4 => ?_⟩
    have s5 := same_new (o := .lst [.int 3, .int 3]) n4
    have e5 : upd H4 l4 (.lst [.int 3, .int 3]) l4 = some (.lst [.int 3, .int 3]) := upd_same
    generalize upd H4 l4 (.lst [.int 3, .int 3]) = H5 at s5 e5
    refine ⟨_, rfl, _, _, rfl, rfl, (show 2 ≤ sizeLine by decide), fun l5 n5 => ?_⟩
    have s6 := same_new (o := .lst [.int (3 + m), .int 3]) n5
    have e6 : upd H5 l5 (.lst [.int (3 + m), .int 3]) l5 = some (.lst [.int (3 + m), .int 3]) := upd_same
    generalize upd H5 l5 (.lst [.int (3 + m), .int 3]) = H6 at s6 e6
    refine ⟨_, rfl, _, _, rfl, rfl, (show 3 ≤ sizeLine by decide), fun l6 n6 => ?_⟩
    have s7 := same_new (o := .lst [.int 0, .int 2, .int (1 - m)]) n6
    have e7 : upd H6 l6 (.lst [.int 0, .int 2, .int (1 - m)]) l6 = some (.lst [.int 0, .int 2, .int (1 - m)]) := upd_same
    generalize upd H6 l6 (.lst [.int 0, .int 2, .int (1 - m)]) = H7 at s7 e7
    refine ⟨(show 10 ≤ sizeLine by decide), fun L nL => ?_⟩
    have s8 := same_new (o := .lst [.non, .ref t1, .str ("12" : Str), .int 5, .ref l1, .ref l2, .ref l3, .ref l4, .ref l5, .ref l6]) nL
    have e8 : upd H7 L (.lst [.non, .ref t1, .str ("12" : Str), .int 5, .ref l1, .ref l2, .ref l3, .ref l4, .ref l5, .ref l6]) L = some (.lst [.non, .ref t1, .str ("12" : Str), .int 5, .ref l1, .ref l2, .ref l3, .ref l4, .ref l5, .ref l6]) := upd_same
    generalize upd H7 L (.lst [.non, .ref t1, .str ("12" : Str), .int 5, .ref l1, .ref l2, .ref l3, .ref l4, .ref l5, .ref l6]) = H8 at s8 e8
    have s28 := s2.trans (s3.trans (s4.trans (s5.trans (s6.trans (s7.trans s8)))))
    have s38 := s3.trans (s4.trans (s5.trans (s6.trans (s7.trans s8))))
    have s48 := s4.trans (s5.trans (s6.trans (s7.trans s8)))
    have s58 := s5.trans (s6.trans (s7.trans s8))
    have s68 := s6.trans (s7.trans s8)
    have s78 := s7.trans s8
    have sA := s1.trans s28
    obtain ⟨k, hk, ek⟩ := rests wh 10 (by decide) (z := 10) rfl
    obtain ⟨x, hx, hb⟩ : ∃ x, [V.non, .ref t1, .str ("12" : Str), .int 5, .ref l1, .ref l2, .ref l3, .ref l4, .ref l5, .ref l6][k]? = some x ∧ BadC H8 x := by
      match k, hk with
      | 0, _ => exact ⟨_, rfl, .inl ⟨_, .non, by decide⟩⟩
      | 1, _ => exact ⟨_, rfl, .inl ⟨_, .tup (s28 _ _ e1), by decide⟩⟩
      | 2, _ => exact ⟨_, rfl, .inl ⟨_, .str _, by decide⟩⟩
      | 3, _ => exact ⟨_, rfl, .inl ⟨_, .int _, by decide⟩⟩
      | 4, _ => exact ⟨_, rfl, .inr (.inl ⟨l1, _, _, rfl, s38 _ _ e2, fun _ => .bl _, by decide⟩)⟩
      | 5, _ => exact ⟨_, rfl, .inr (.inl ⟨l2, _, _, rfl, s48 _ _ e3, fun _ => .str _, by decide⟩)⟩
      | 6, _ => exact ⟨_, rfl, .inr (.inl ⟨l3, _, _, rfl, s58 _ _ e4, fun _ => .non, by decide⟩)⟩
      | 7, _ => exact ⟨_, rfl, .inr (.inr ⟨l4, 2, fun i => [3, 3].getD i 0, rfl, s68 _ _ e5, by decide, 0, by decide, by decide⟩)⟩
      | 8, _ => exact ⟨_, rfl, .inr (.inr ⟨l5, 2, fun i => [3 + m, 3].getD i 0, rfl, s78 _ _ e6, by decide, 0, by decide, show (3 : Int) ≤ 3 + m by omega⟩)⟩
      | 9, _ => exact ⟨_, rfl, .inr (.inr ⟨l6, 3, fun i => [0, 2, 1 - m].getD i 0, rfl, s8 _ _ e7, by decide, 1, by decide, show 1 - m ≤ (2 : Int) by omega⟩)⟩
      | k + 10, h => exact absurd h (by omega)
    refine ⟨_, rfl, _, _, rfl, rfl, (show (10 : Int) ≠ 0 by decide), L, _, _, x, rfl, rfl, SqL.of e8, at_nat ek hx, ?_⟩
    -- the door
    refine ⟨_, rfl, _, _, rfl, rfl, ⟨by decide, by decide⟩, _, _, rfl, rfl, (show (6 : Int) ≠ 0 by decide), ?_⟩
    obtain ⟨d, hd, ed⟩ := rests (wh.fdiv 10) 6 (by decide) (z := 6) rfl
    refine ⟨_, rfl, _, _, rfl, rfl, _, rfl, ite2 (fun e => ?_) (fun _ => ?_)⟩
    · have h3 : (wh.fdiv 10).fmod 6 < 3 := of_decide_eq_true e
      obtain ⟨fx, hfx, hat⟩ : ∃ fx, (fx = f1 ∨ fx = f2 ∨ fx = f3) ∧ [V.ref f1, .ref f2, .ref f3][d]? = some (.ref fx) := by
        match d, (show d < 3 by omega) with
        | 0, _ => exact ⟨f1, .inl rfl, rfl⟩
        | 1, _ => exact ⟨f2, .inr (.inl rfl), rfl⟩
        | 2, _ => exact ⟨f3, .inr (.inr rfl), rfl⟩
        | d + 3, h => exact absurd h (by omega)
      refine ⟨(show 3 ≤ sizeLine by decide), fun Lf nLf => ?_⟩
      have s9 := same_new (o := .lst [.ref f1, .ref f2, .ref f3]) nLf
      exact ⟨_, rfl, Lf, _, _, .ref fx, rfl, rfl, SqL.of upd_same, at_nat ed hat, fx, rfl, hfx, _, rfl, x, [], rfl, rfl, hb.same s9, fun H' s' => q _ (sA.trans (s9.trans s'))⟩
    · refine ⟨_, rfl, rfl, _, rfl, ite2 (fun _ => ?_) (fun _ => ?_)⟩
      · exact ⟨_, rfl, x, [.non], rfl, rfl, hb, fun H' s' => q _ (sA.trans s')⟩
      · refine ⟨_, rfl, rfl, _, rfl, ite2 (fun _ => ?_) (fun _ => ?_)⟩
        · exact ⟨_, rfl, x, [.non, .non], rfl, rfl, hb, fun H' s' => q _ (sA.trans s')⟩
        · exact ⟨_, rfl, x, [.non], rfl, rfl, hb, fun H' s' => q _ (sA.trans s')⟩
/-! ### _law_car_asked -/
abbrev s__law_car_asked : Stmt := topS 38
theorem sc__law_car_asked : FnScope ["_law_which", "_law_more", "_law_bad"] ["_law_which", "_law_more"] (defScope s__law_car_asked) := ⟨rfl, rfl, rfl, by decide +kernel, rfl, by decide +kernel, by decide +kernel⟩
theorem x__law_car_asked {f C fh ft : Addr} {fd : FuncData} (F : Fun K "_law_car_asked" "_law_car_asked" s__law_car_asked f fd) (g : mg "_law_car_asked" = some (.ref f))
    (x_held : CalAt P w K mg base 3 fh "held" (spBadCarD K C 0 1)) (x_touches : CalAt P w K mg base 3 ft "touches" (spBadCarD K C 1 0)) : CalAt P w K mg base 4 f "_law_car_asked" (spAsk C) := by
  refine ⟨⟨fd, ["_law_which", "_law_more"], F.okX sc__law_car_asked (fun vs H Q E h => ?_) (fun cdv A outer s H vs Q E hr h => ?_), F.kp, F.binds fun _ _ _ _ _ _ us hl => match us, hl with | [_, _], _ => rfl⟩, g⟩
  · obtain ⟨wh, m, rfl, _⟩ := h
    rfl
  · obtain ⟨wh, m, rfl, hm, q⟩ := h
    refine ⟨_, (pss_cons (ps_set (i := 2) sc__law_car_asked.nd rfl (Or.inl rfl) (pe_ix (ixlK K) (pe_lst (pa_cons pe_non (pa_cons pe_str (pa_cons (pe_op op_sub (pe_un un_neg pe_int) (pv 1)) (pa_cons (pe_op op_add pe_int (pv 1)) (pa_cons pe_bl (pa_cons (pe_lst (pa_cons pe_int pa_nil)) (pa_cons (pe_tup (pa_cons pe_int pa_nil)) pa_nil)))))))) (pe_op op_modN (pv 0) pe_int) (fun _ _ => rfl))) (pss_cons (ps_if (pt_cmpR op_eq (pe_op op_modN (pe_op op_fdivN (pv 0) pe_int) pe_int) pe_int rfl) (pss_one (ps_ret (pe_cx x_held hr (by decide) (by rfl) (passes_call (takes_of rfl rfl rfl rfl) (fun _ _ _ _ h => h)) (pa_cons (pe_lst (pa_cons pe_int (pa_cons pe_int (pa_cons pe_int pa_nil)))) (pa_cons (pv 2) (pa_cons pe_non pa_nil)))))) pss_nil) (pss_one (ps_ret (pe_cx x_touches hr (by decide) (by rfl) (passes_call (takes_of rfl rfl rfl rfl) (fun _ _ _ _ h => h)) (pa_cons (pe_lst (pa_cons pe_int (pa_cons pe_int (pa_cons pe_int pa_nil)))) (pa_cons (pe_ix (ixlK K) (pe_lst (pa_cons (pv 2) (pa_cons pe_int pa_nil))) (pe_op op_modN (pe_op op_fdivN (pv 0) pe_int) pe_int) (fun _ _ => rfl)) pa_nil))))))), ?_⟩
    refine ⟨_, rfl, _, rfl, _, _, rfl, rfl, _, rfl, _, _, rfl, rfl, (show 1 ≤ sizeLine by decide), fun l1 n1 => ?_⟩
    have s1 := same_new (o := .lst [.int 0]) n1
    have e1 : upd H l1 (.lst [.int 0]) l1 = some (.lst [.int 0]) := upd_same
    generalize upd H l1 (.lst [.int 0]) = H1 at s1 e1
    refine ⟨(show 1 ≤ sizeLine by decide), fun t1 nt1 => ?_⟩
    have s2 := same_new (o := .tup [.int 1]) nt1
    have e2 : upd H1 t1 (.tup [.int 1]) t1 = some (.tup [.int 1]) := upd_same
    generalize upd H1 t1 (.tup [.int 1]) = H2 at s2 e2
    refine ⟨(show 7 ≤ sizeLine by decide), fun L nL => ?_⟩
    have s3 := same_new (o := .lst [.non, .str ("0" : Str), .int (-1 - m), .int (3 + m), .bl true, .ref l1, .ref t1]) nL
    have e3 : upd H2 L (.lst [.non, .str ("0" : Str), .int (-1 - m), .int (3 + m), .bl true, .ref l1, .ref t1]) L = some (.lst [.non, .str ("0" : Str), .int (-1 - m), .int (3 + m), .bl true, .ref l1, .ref t1]) := upd_same
    generalize upd H2 L (.lst [.non, .str ("0" : Str), .int (-1 - m), .int (3 + m), .bl true, .ref l1, .ref t1]) = H3 at s3 e3
    have sA := s1.trans (s2.trans s3)
    obtain ⟨k, hk, ek⟩ := rests wh 7 (by decide) (z := 7) rfl
    obtain ⟨x, hx, hb⟩ : ∃ x, [V.non, .str ("0" : Str), .int (-1 - m), .int (3 + m), .bl true, .ref l1, .ref t1][k]? = some x ∧ ∀ r : Int, 0 ≤ r → BadN H3 x (fun i => 0 ≤ i ∧ i < ((3 : Nat) : Int) - r) := by
      match k, hk with
      | 0, _ => exact ⟨_, rfl, fun r _ => .inl ⟨_, .non, by decide⟩⟩
      | 1, _ => exact ⟨_, rfl, fun r _ => .inl ⟨_, .str _, by decide⟩⟩
      | 2, _ => exact ⟨_, rfl, fun r _ => .inr ⟨_, rfl, by omega⟩⟩
      | 3, _ => exact ⟨_, rfl, fun r _ => .inr ⟨_, rfl, by omega⟩⟩
      | 4, _ => exact ⟨_, rfl, fun r _ => .inl ⟨_, .bl _, by decide⟩⟩
      | 5, _ => exact ⟨_, rfl, fun r _ => .inl ⟨_, .lst ((s2.trans s3) _ _ e1), by decide⟩⟩
      | 6, _ => exact ⟨_, rfl, fun r _ => .inl ⟨_, .tup (s3 _ _ e2), by decide⟩⟩
      | k + 7, h => exact absurd h (by omega)
    refine ⟨_, rfl, _, _, rfl, rfl, (show (7 : Int) ≠ 0 by decide), L, _, _, x, rfl, rfl, SqL.of e3, at_nat ek hx, ?_⟩
    refine ⟨_, rfl, _, _, rfl, rfl, ⟨by decide, by decide⟩, _, _, rfl, rfl, (show (2 : Int) ≠ 0 by decide), rfl, _, rfl, ite2 (fun _ => ?_) (fun _ => ?_)⟩
    · refine ⟨(show 3 ≤ sizeLine by decide), fun lc nlc => ?_⟩
      have s4 := same_new (o := .lst [.int 1, .int 2, .int 9]) nlc
      exact ⟨_, rfl, lc, 3, fun i => [1, 2, 9].getD i 0, x, [.non], rfl, rfl, SqL.of upd_same, cars129, by decide, (hb 0 (by decide)).same s4, fun H' s' => q _ (sA.trans (s4.trans s'))⟩
    · refine ⟨(show 3 ≤ sizeLine by decide), fun lc nlc => ?_⟩
      have s4 := same_new (o := .lst [.int 1, .int 2, .int 9]) nlc
      have e4 : upd H3 lc (.lst [.int 1, .int 2, .int 9]) lc = some (.lst [.int 1, .int 2, .int 9]) := upd_same
      generalize upd H3 lc (.lst [.int 1, .int 2, .int 9]) = H4 at s4 e4
      refine ⟨_, rfl, (show 2 ≤ sizeLine by decide), fun lb nlb => ?_⟩
      have s5 := same_new (o := .lst [x, .int 2]) nlb
      obtain ⟨d, hd, ed⟩ := rests (wh.fdiv 14) 2 (by decide) (z := 2) rfl
      obtain ⟨y, hy, hby⟩ : ∃ y, [x, V.int 2][d]? = some y ∧ BadN H3 y (fun i => 0 ≤ i ∧ i < ((3 : Nat) : Int) - 1) := by
        match d, hd with
        | 0, _ => exact ⟨_, rfl, hb 1 (by decide)⟩
        | 1, _ => exact ⟨_, rfl, .inr ⟨2, rfl, by omega⟩⟩
        | d + 2, h => exact absurd h (by omega)
      exact ⟨_, rfl, _, _, rfl, rfl, ⟨by decide, by decide⟩, _, _, rfl, rfl, (show (2 : Int) ≠ 0 by decide), lb, _, _, y, rfl, rfl, SqL.of upd_same, at_nat ed hy, lc, 3, fun i => [1, 2, 9].getD i 0, y, [], rfl, rfl, SqL.of (s5 _ _ e4), cars129, by decide, hby.same (s4.trans s5), fun H' s' => q _ (sA.trans (s4.trans (s5.trans s')))⟩
/-! ### _law_others_asked -/
abbrev s__law_others_asked : Stmt := topS 39
theorem sc__law_others_asked : FnScope ["_law_kind", "_law_which", "_law_more", "_law_bad", "_law_door"] ["_law_kind", "_law_which", "_law_more"] (defScope s__law_others_asked) := ⟨rfl, rfl, rfl, by decide +kernel, rfl, by decide +kernel, by decide +kernel⟩
def spOthers (CS CR : Addr) : Sp := fun vs H _ E => ∃ k wh m : Int, vs = [.int k, .int wh, .int m] ∧ 0 ≤ m ∧ ((k = 2 ∧ ∀ H', Same H H' → E (.ref CS) none H') ∨ (k = 3 ∧ ∀ H', Same H H' → E (.ref CR) none H'))
theorem x__law_others_asked {f CS CR fa fh f1 f2 f3 f4 f5 : Addr} {fd : FuncData} (F : Fun K "_law_others_asked" "_law_others_asked" s__law_others_asked f fd) (g : mg "_law_others_asked" = some (.ref f))
    (x_after : CalAt P w K mg base 3 fa "after" (spAfterBad K CS)) (x_held : CalAt P w K mg base 3 fh "held" (spHeldBad K CS)) (d1 : CalAt P w K mg base 3 f1 "around_after" (spRingBad CS)) (d2 : CalAt P w K mg base 4 f2 "flow" (spRingBad CS))
    (d3 : CalAt P w K mg base 2 f3 "around" (spBadRing CR 0)) (d4 : CalAt P w K mg base 2 f4 "exchanged" (spBadRing CR 0)) (d5 : CalAt P w K mg base 2 f5 "settled" (spBadRing CR 0)) (d6 : CalAt P w K mg base 2 f1 "around_after" (spBadRing CR 1)) (d7 : CalAt P w K mg base 3 f2 "flow" (spBadRing CR 1)) : CalAt P w K mg base 5 f "_law_others_asked" (spOthers CS CR) := by
  have hF_around_after_flow : ∀ f, (f = f1 ∨ f = f2) → ∃ (k : Nat) (x : Str), k ≤ 4 ∧ CalAt P w K mg base k f x (spRingBad CS) := by
    rintro f (rfl | rfl)
    · exact ⟨3, _, by decide, d1⟩
    · exact ⟨4, _, by decide, d2⟩
  have hF_around_exchanged_settled : ∀ f, (f = f3 ∨ f = f4 ∨ f = f5) → ∃ (k : Nat) (x : Str), k ≤ 4 ∧ CalAt P w K mg base k f x (spBadRing CR 0) := by
    rintro f (rfl | rfl | rfl)
    · exact ⟨2, _, by decide, d3⟩
    · exact ⟨2, _, by decide, d4⟩
    · exact ⟨2, _, by decide, d5⟩
  have hF_around_after_flow_2 : ∀ f, (f = f1 ∨ f = f2) → ∃ (k : Nat) (x : Str), k ≤ 4 ∧ CalAt P w K mg base k f x (spBadRing CR 1) := by
    rintro f (rfl | rfl)
    · exact ⟨2, _, by decide, d6⟩
    · exact ⟨3, _, by decide, d7⟩
  have g_around_after := d1.g
  have g_flow := d2.g
  have g_around := d3.g
  have g_exchanged := d4.g
  have g_settled := d5.g
  refine ⟨⟨fd, ["_law_kind", "_law_which", "_law_more"], F.okX sc__law_others_asked (fun vs H Q E h => ?_) (fun cdv A outer s H vs Q E hr h => ?_), F.kp, F.binds fun _ _ _ _ _ _ us hl => match us, hl with | [_, _, _], _ => rfl⟩, g⟩
  · obtain ⟨k, wh, m, rfl, _⟩ := h
    rfl
  · obtain ⟨kd, wh, m, rfl, hm, hq⟩ := h
    refine ⟨_, (pss_cons (ps_if (pt_cmpR op_eq (pv 0) pe_int rfl) (pss_cons (ps_set (i := 3) sc__law_others_asked.nd rfl (Or.inl rfl) (pe_ix (ixlK K) (pe_lst (pa_cons pe_non (pa_cons pe_str (pa_cons pe_bl (pa_cons (pe_lst (pa_cons pe_int pa_nil)) (pa_cons (pe_tup (pa_cons pe_int pa_nil)) (pa_cons (pe_op op_sub (pe_un un_neg pe_int) (pv 2)) pa_nil))))))) (pe_op op_modN (pv 1) pe_int) (fun _ _ => rfl))) (pss_cons (ps_set (i := 4) sc__law_others_asked.nd rfl (Or.inl rfl) (pe_op op_modN (pe_op op_fdivN (pv 1) pe_int) pe_int)) (pss_cons (ps_if (pt_cmpR op_lt (pv 4) pe_int rfl) (pss_one (ps_ret (pe_ifExp (pt_cmpR op_eq (pv 4) pe_int rfl) (pe_cx x_after hr (by decide) (by rfl) (passes_call (takes_of rfl rfl rfl rfl) (fun _ _ _ _ h => h)) (pa_cons (pe_lst (pa_cons pe_int (pa_cons pe_int (pa_cons pe_int pa_nil)))) (pa_cons (pv 3) pa_nil))) (pe_cx x_held hr (by decide) (by rfl) (passes_call (takes_of rfl rfl rfl rfl) (fun _ _ _ _ h => h)) (pa_cons (pe_lst (pa_cons pe_int (pa_cons pe_int (pa_cons pe_int pa_nil)))) (pa_cons pe_int (pa_cons (pv 3) pa_nil))))))) pss_nil) (pss_one (ps_ret (pe_co hF_around_after_flow hr (pe_ix (ixlK K) (pe_lst (pa_cons (pe_cls (by rfl) g_around_after) (pa_cons (pe_cls (by rfl) g_flow) pa_nil))) (pe_op op_sub (pv 4) pe_int) (fun _ _ => rfl)) (passes_call (takes_of rfl rfl rfl rfl) (fun _ _ _ _ h => h)) (pa_cons pe_str (pa_cons (pv 3) pa_nil)))))))) pss_nil) (pss_cons (ps_set (i := 3) sc__law_others_asked.nd rfl (Or.inl rfl) (pe_ix (ixlK K) (pe_lst (pa_cons pe_non (pa_cons pe_int (pa_cons (pe_lst (pa_cons pe_str pa_nil)) (pa_cons (pe_tup (pa_cons pe_str (pa_cons pe_str pa_nil))) (pa_cons pe_str (pa_cons pe_str (pa_cons pe_str (pa_cons pe_str pa_nil))))))))) (pe_op op_modN (pv 1) pe_int) (fun _ _ => rfl))) (pss_cons (ps_set (i := 4) sc__law_others_asked.nd rfl (Or.inl rfl) (pe_op op_modN (pe_op op_fdivN (pv 1) pe_int) pe_int)) (pss_cons (ps_if (pt_cmpR op_lt (pv 4) pe_int rfl) (pss_one (ps_ret (pe_co hF_around_exchanged_settled hr (pe_ix (ixlK K) (pe_lst (pa_cons (pe_cls (by rfl) g_around) (pa_cons (pe_cls (by rfl) g_exchanged) (pa_cons (pe_cls (by rfl) g_settled) pa_nil)))) (pv 4) (fun _ _ => rfl)) (passes_call (takes_of rfl rfl rfl rfl) (fun _ _ _ _ h => h)) (pa_cons (pv 3) pa_nil)))) pss_nil) (pss_one (ps_ret (pe_co hF_around_after_flow_2 hr (pe_ix (ixlK K) (pe_lst (pa_cons (pe_cls (by rfl) g_around_after) (pa_cons (pe_cls (by rfl) g_flow) pa_nil))) (pe_op op_sub (pv 4) pe_int) (fun _ _ => rfl)) (passes_call (takes_of rfl rfl rfl rfl) (fun _ _ _ _ h => h)) (pa_cons (pv 3) (pa_cons pe_non pa_nil))))))))), ?_⟩
    rcases hq with ⟨rfl, q⟩ | ⟨rfl, q⟩
    · refine ⟨_, rfl, rfl, _, rfl, ite2 (fun _ => ?_) (fun e => absurd (decide_eq_true rfl) e)⟩
      refine ⟨(show 1 ≤ sizeLine by decide), fun l1 n1 => ?_⟩
      have s1 := same_new (o := .lst [.int 1]) n1
      have e1 : upd H l1 (.lst [.int 1]) l1 = some (.lst [.int 1]) := upd_same
      generalize upd H l1 (.lst [.int 1]) = H1 at s1 e1
      refine ⟨(show 1 ≤ sizeLine by decide), fun t1 nt1 => ?_⟩
      have s2 := same_new (o := .tup [.int 1]) nt1
      have e2 : upd H1 t1 (.tup [.int 1]) t1 = some (.tup [.int 1]) := upd_same
      generalize upd H1 t1 (.tup [.int 1]) = H2 at s2 e2
      refine ⟨_, rfl, _, rfl, _, _, rfl, rfl, (show 6 ≤ sizeLine by decide), fun L nL => ?_⟩
      have s3 := same_new (o := .lst [.non, .str ("1" : Str), .bl true, .ref l1, .ref t1, .int (-1 - m)]) nL
      have e3 : upd H2 L (.lst [.non, .str ("1" : Str), .bl true, .ref l1, .ref t1, .int (-1 - m)]) L = some (.lst [.non, .str ("1" : Str), .bl true, .ref l1, .ref t1, .int (-1 - m)]) := upd_same
      generalize upd H2 L (.lst [.non, .str ("1" : Str), .bl true, .ref l1, .ref t1, .int (-1 - m)]) = H3 at s3 e3
      have sA := s1.trans (s2.trans s3)
      obtain ⟨k, hk, ek⟩ := rests wh 6 (by decide) (z := 6) rfl
      obtain ⟨x, hx, hb⟩ : ∃ x, [V.non, .str ("1" : Str), .bl true, .ref l1, .ref t1, .int (-1 - m)][k]? = some x ∧ BadN H3 x (fun i => 0 ≤ i) := by
        match k, hk with
        | 0, _ => exact ⟨_, rfl, .inl ⟨_, .non, by decide⟩⟩
        | 1, _ => exact ⟨_, rfl, .inl ⟨_, .str _, by decide⟩⟩
        | 2, _ => exact ⟨_, rfl, .inl ⟨_, .bl _, by decide⟩⟩
        | 3, _ => exact ⟨_, rfl, .inl ⟨_, .lst ((s2.trans s3) _ _ e1), by decide⟩⟩
        | 4, _ => exact ⟨_, rfl, .inl ⟨_, .tup (s3 _ _ e2), by decide⟩⟩
        | 5, _ => exact ⟨_, rfl, .inr ⟨_, rfl, by omega⟩⟩
        | k + 6, h => exact absurd h (by omega)
      refine ⟨_, rfl, _, _, rfl, rfl, (show (6 : Int) ≠ 0 by decide), L, _, _, x, rfl, rfl, SqL.of e3, at_nat ek hx, ?_⟩
      refine ⟨_, rfl, _, _, rfl, rfl, ⟨by decide, by decide⟩, _, _, rfl, rfl, (show (4 : Int) ≠ 0 by decide), ?_⟩
      obtain ⟨d, hd, ed⟩ := rests (wh.fdiv 6) 4 (by decide) (z := 4) rfl
      refine ⟨_, rfl, _, _, rfl, rfl, _, rfl, ite2 (fun e => ?_) (fun e => ?_)⟩
      · refine ⟨_, rfl, rfl, _, rfl, ite2 (fun _ => ?_) (fun _ => ?_)⟩
        · refine ⟨(show 3 ≤ sizeLine by decide), fun lc nlc => ?_⟩
          have s4 := same_new (o := .lst [.int 1, .int 2, .int 9]) nlc
          exact ⟨_, rfl, lc, 3, fun i => [1, 2, 9].getD i 0, x, rfl, SqL.of upd_same, cars129, by decide, hb.same s4, fun H' s' => q _ (sA.trans (s4.trans s'))⟩
        · refine ⟨(show 3 ≤ sizeLine by decide), fun lc nlc => ?_⟩
          have s4 := same_new (o := .lst [.int 1, .int 2, .int 9]) nlc
          exact ⟨_, rfl, lc, 3, fun i => [1, 2, 9].getD i 0, 1, x, rfl, SqL.of upd_same, cars129, by decide, by decide, by decide, hb.same s4, fun H' s' => q _ (sA.trans (s4.trans s'))⟩
      · have h2 : ¬ (wh.fdiv 6).fmod 4 < 2 := fun z => e (decide_eq_true z)
        obtain ⟨fx, hfx, hat⟩ : ∃ fx, (fx = f1 ∨ fx = f2) ∧ [V.ref f1, .ref f2][d - 2]? = some (.ref fx) := by
          match d, (show 2 ≤ d ∧ d < 4 by omega) with
          | 2, _ => exact ⟨f1, .inl rfl, rfl⟩
          | 3, _ => exact ⟨f2, .inr rfl, rfl⟩
          | 0, h => exact absurd h.1 (by decide)
          | 1, h => exact absurd h.1 (by decide)
          | d + 4, h => exact absurd h.2 (by omega)
        refine ⟨(show 2 ≤ sizeLine by decide), fun Lf nLf => ?_⟩
        have s9 := same_new (o := .lst [.ref f1, .ref f2]) nLf
        exact ⟨_, rfl, _, _, rfl, rfl, Lf, _, _, .ref fx, rfl, rfl, SqL.of upd_same, at_nat (k := d - 2) (by omega) hat, fx, rfl, hfx, _, rfl, 3, (fun p => decide (p ≠ 1)), x, congrArg (fun z => [V.str z, x]) ring_cdc.symm, by decide, by decide, hb.same s9, q _ (sA.trans s9)⟩
    · refine ⟨_, rfl, rfl, _, rfl, ite2 (fun e => absurd e (by decide)) (fun _ => ?_)⟩
      refine ⟨(show 1 ≤ sizeLine by decide), fun l1 n1 => ?_⟩
      have s1 := same_new (o := .lst [.str ("c" : Str)]) n1
      have e1 : upd H l1 (.lst [.str ("c" : Str)]) l1 = some (.lst [.str ("c" : Str)]) := upd_same
      generalize upd H l1 (.lst [.str ("c" : Str)]) = H1 at s1 e1
      refine ⟨(show 2 ≤ sizeLine by decide), fun t1 nt1 => ?_⟩
      have s2 := same_new (o := .tup [.str ("c" : Str), .str ("." : Str)]) nt1
      have e2 : upd H1 t1 (.tup [.str ("c" : Str), .str ("." : Str)]) t1 = some (.tup [.str ("c" : Str), .str ("." : Str)]) := upd_same
      generalize upd H1 t1 (.tup [.str ("c" : Str), .str ("." : Str)]) = H2 at s2 e2
      refine ⟨(show 8 ≤ sizeLine by decide), fun L nL => ?_⟩
      have s3 := same_new (o := .lst [.non, .int 5, .ref l1, .ref t1, .str ("C" : Str), .str ("c x" : Str), .str ("c\n" : Str), .str ("" : Str)]) nL
      have e3 : upd H2 L (.lst [.non, .int 5, .ref l1, .ref t1, .str ("C" : Str), .str ("c x" : Str), .str ("c\n" : Str), .str ("" : Str)]) L = some (.lst [.non, .int 5, .ref l1, .ref t1, .str ("C" : Str), .str ("c x" : Str), .str ("c\n" : Str), .str ("" : Str)]) := upd_same
      generalize upd H2 L (.lst [.non, .int 5, .ref l1, .ref t1, .str ("C" : Str), .str ("c x" : Str), .str ("c\n" : Str), .str ("" : Str)]) = H3 at s3 e3
      have sA := s1.trans (s2.trans s3)
      obtain ⟨k, hk, ek⟩ := rests wh 8 (by decide) (z := 8) rfl
      obtain ⟨x, hx, hb⟩ : ∃ x, [V.non, .int 5, .ref l1, .ref t1, .str ("C" : Str), .str ("c x" : Str), .str ("c\n" : Str), .str ("" : Str)][k]? = some x ∧ BadR H3 x := by
        match k, hk with
        | 0, _ => exact ⟨_, rfl, .inl ⟨_, .non, by decide⟩⟩
        | 1, _ => exact ⟨_, rfl, .inl ⟨_, .int _, by decide⟩⟩
        | 2, _ => exact ⟨_, rfl, .inl ⟨_, .lst ((s2.trans s3) _ _ e1), by decide⟩⟩
        | 3, _ => exact ⟨_, rfl, .inl ⟨_, .tup (s3 _ _ e2), by decide⟩⟩
        | 4, _ => exact ⟨_, rfl, .inr ⟨_, rfl, by decide +kernel, .inl bad_C⟩⟩
        | 5, _ => exact ⟨_, rfl, .inr ⟨_, rfl, by decide +kernel, .inl bad_cx⟩⟩
        | 6, _ => exact ⟨_, rfl, .inr ⟨_, rfl, by decide +kernel, .inl bad_cn⟩⟩
        | 7, _ => exact ⟨_, rfl, .inr ⟨_, rfl, by decide +kernel, .inr ⟨bad_nil, rfl⟩⟩⟩
        | k + 8, h => exact absurd h (by omega)
      refine ⟨_, rfl, _, _, rfl, rfl, (show (8 : Int) ≠ 0 by decide), L, _, _, x, rfl, rfl, SqL.of e3, at_nat ek hx, ?_⟩
      refine ⟨_, rfl, _, _, rfl, rfl, ⟨by decide, by decide⟩, _, _, rfl, rfl, (show (5 : Int) ≠ 0 by decide), ?_⟩
      obtain ⟨d, hd, ed⟩ := rests (wh.fdiv 8) 5 (by decide) (z := 5) rfl
      refine ⟨_, rfl, _, _, rfl, rfl, _, rfl, ite2 (fun e => ?_) (fun e => ?_)⟩
      · have h3 : (wh.fdiv 8).fmod 5 < 3 := of_decide_eq_true e
        obtain ⟨fx, hfx, hat⟩ : ∃ fx, (fx = f3 ∨ fx = f4 ∨ fx = f5) ∧ [V.ref f3, .ref f4, .ref f5][d]? = some (.ref fx) := by
          match d, (show d < 3 by omega) with
          | 0, _ => exact ⟨f3, .inl rfl, rfl⟩
          | 1, _ => exact ⟨f4, .inr (.inl rfl), rfl⟩
          | 2, _ => exact ⟨f5, .inr (.inr rfl), rfl⟩
          | d + 3, h => exact absurd h (by omega)
        refine ⟨(show 3 ≤ sizeLine by decide), fun Lf nLf => ?_⟩
        have s9 := same_new (o := .lst [.ref f3, .ref f4, .ref f5]) nLf
        exact ⟨_, rfl, Lf, _, _, .ref fx, rfl, rfl, SqL.of upd_same, at_nat ed hat, fx, rfl, hfx, _, rfl, x, [], rfl, rfl, hb.same s9, q _ (sA.trans s9)⟩
      · have h3 : ¬ (wh.fdiv 8).fmod 5 < 3 := fun z => e (decide_eq_true z)
        obtain ⟨fx, hfx, hat⟩ : ∃ fx, (fx = f1 ∨ fx = f2) ∧ [V.ref f1, .ref f2][d - 3]? = some (.ref fx) := by
          match d, (show 3 ≤ d ∧ d < 5 by omega) with
          | 3, _ => exact ⟨f1, .inl rfl, rfl⟩
          | 4, _ => exact ⟨f2, .inr rfl, rfl⟩
          | 0, h => exact absurd h.1 (by decide)
          | 1, h => exact absurd h.1 (by decide)
          | 2, h => exact absurd h.1 (by decide)
          | d + 5, h => exact absurd h.2 (by omega)
        refine ⟨(show 2 ≤ sizeLine by decide), fun Lf nLf => ?_⟩
        have s9 := same_new (o := .lst [.ref f1, .ref f2]) nLf
        exact ⟨_, rfl, _, _, rfl, rfl, Lf, _, _, .ref fx, rfl, rfl, SqL.of upd_same, at_nat (k := d - 3) (by omega) hat, fx, rfl, hfx, _, rfl, x, [.non], rfl, rfl, hb.same s9, q _ (sA.trans s9)⟩
end
end JR

namespace JR
open PySem PySem.Spec PyProof.Rows L2
/-- what a bad value's error is asked for -/
structure TellC (K : PySem.W.Frag) (D C1 C2 C3 C4 CE : Addr) (b1 b2 b3 b4 : Bool) : Prop where
  xc : ExcC K D
  ex : PySem.W.exmOne K (.ref D) (.ref CE) = some true
  k1 : PySem.W.kitOne K (.ref D) (.ref C1) = some b1
  k2 : PySem.W.kitOne K (.ref D) (.ref C2) = some b2
  k3 : PySem.W.kitOne K (.ref D) (.ref C3) = some b3
  k4 : PySem.W.kitOne K (.ref D) (.ref C4) = some b4
  kv : PySem.W.kitOne K (.ref D) (.type "ValueError") = some true
theorem kit_facts {K : PySem.W.Frag} {C D : Addr} {b : Bool} (h1 : PySem.W.isClsIn K D = true) (h2 : PySem.W.typeIn K (.ref D) = some (.type "type")) (h3 : PySem.W.subIn K (.ref C) (.ref D) = some b) (h4 : PySem.W.subIn K (.ref C) (.ref C) = some true) : PySem.W.kitOne K (.ref C) (.ref D) = some b := by
  unfold PySem.W.kitOne
  by_cases e : (Value.ref C == Value.ref D) = true
  · have e2 : Value.ref C = Value.ref D := eq_of_beq e
    rw [if_pos e]
    rw [← e2, h4] at h3
    exact h3
  · rw [if_neg e]
    show (if ((PySem.W.clsIn K D).isSome && PySem.W.typeIn K (.ref D) == some (.type "type")) = true then PySem.W.subIn K (.ref C) (.ref D) else none) = some b
    have h1' : (PySem.W.clsIn K D).isSome = true := h1
    rw [h1', h2, if_pos (by decide +kernel)]
    exact h3
theorem kit_ve {K : PySem.W.Frag} {D : Addr} (h : PySem.W.subIn K (.ref D) (.type "ValueError") = some true) : PySem.W.kitOne K (.ref D) (.type "ValueError") = some true := by
  unfold PySem.W.kitOne
  rw [if_neg (fun z => Value.noConfusion (eq_of_beq z : Value.ref D = Value.type "ValueError"))]
  show (if PySem.W.kitMeta "ValueError" = true then PySem.W.subIn K (.ref D) (.type "ValueError") else none) = some true
  rw [if_pos (by decide +kernel)]
  exact h
theorem exm_of2 {K : PySem.W.Frag} {D S : Addr} (h1 : PySem.W.subIn K (.ref S) (.type "BaseException") = some true) (h2 : PySem.W.isClsIn K S = true) (h3 : PySem.W.typeIn K (.ref S) = some (.type "type")) (h4 : PySem.W.subIn K (.ref D) (.ref S) = some true) :
    PySem.W.exmOne K (.ref D) (.ref S) = some true := by
  have e1 : (PySem.W.subIn K (.ref S) (.type "BaseException") == some true) = true := by rw [h1] <;> rfl
  have e2 : ((PySem.W.clsIn K S).isSome && PySem.W.typeIn K (.ref S) == some (.type "type")) = true := by
    have h2' : (PySem.W.clsIn K S).isSome = true := h2
    rw [h2', h3] <;> rfl
  show (if (PySem.W.subIn K (.ref S) (.type "BaseException") == some true) = true then (if ((PySem.W.clsIn K S).isSome && PySem.W.typeIn K (.ref S) == some (.type "type")) = true then PySem.W.subIn K (.ref D) (.ref S) else none) else none) = some true
  rw [if_pos e1, if_pos e2]
  exact h4
section
variable {P : Program} {w : World} {K : PySem.W.Frag} {mg : Str → Option Value} {base : Heap}
/-! ### _law_told -/
abbrev s__law_told : Stmt := topS 40
theorem sc__law_told : FnScope ["_law_kind", "_law_which", "_law_more", "error", "_law_found"] ["_law_kind", "_law_which", "_law_more"] (defScope s__law_told) := ⟨rfl, rfl, rfl, by decide +kernel, rfl, by decide +kernel, by decide +kernel⟩
def toldL (k : Int) : List V := [.bl (decide (V.int k = V.int 0)), .bl (decide (V.int k = V.int 1)), .bl (decide (V.int k = V.int 2)), .bl (decide (V.int k = V.int 3)), .bl true]
def spTold : Sp := fun vs H Q _ => ∃ k wh m : Int, vs = [.int k, .int wh, .int m] ∧ 0 ≤ k ∧ k < 4 ∧ 0 ≤ m ∧ ∀ H' p, Same H H' → H' p = some (.lst (toldL k)) → Q (.ref p) H'
theorem cal__law_told {f C1 C2 C3 C4 CE fa fb fc : Addr} {fd : FuncData} (F : Fun K "_law_told" "_law_told" s__law_told f fd) (g : mg "_law_told" = some (.ref f)) (B : Blt mg) (zVE : mg "ValueError" = none)
    (g_RoadError : mg "RoadError" = some (.ref CE)) (g_BadCars : mg "BadCars" = some (.ref C1)) (g_BadCar : mg "BadCar" = some (.ref C2)) (g_BadSteps : mg "BadSteps" = some (.ref C3)) (g_BadRing : mg "BadRing" = some (.ref C4))
    (T1 : TellC K C1 C1 C2 C3 C4 CE true false false false) (T2 : TellC K C2 C1 C2 C3 C4 CE false true false false) (T3 : TellC K C3 C1 C2 C3 C4 CE false false true false) (T4 : TellC K C4 C1 C2 C3 C4 CE false false false true)
    (x1 : CalAt P w K mg base 4 fa "_law_cars_asked" (spAsk C1)) (x2 : CalAt P w K mg base 4 fb "_law_car_asked" (spAsk C2)) (x3 : CalAt P w K mg base 5 fc "_law_others_asked" (spOthers C3 C4)) : Cal P w K mg base 6 "_law_told" spTold := by
  refine ⟨f, fd, ["_law_kind", "_law_which", "_law_more"], F.ok sc__law_told (fun vs H Q E h => ?_) (fun cdv A outer s H vs Q E hr h => ?_), g, F.kp, F.binds fun _ _ _ _ _ _ us hl => match us, hl with | [_, _, _], _ => rfl⟩
  · obtain ⟨k, wh, m, rfl, _⟩ := h
    rfl
  · obtain ⟨k, wh, m, rfl, h0, h4, hm, q⟩ := h
    refine ⟨_, (pss_cons (ps_try_as (i := 3) rfl rfl sc__law_told.nd rfl rfl ⟨rfl, by decide, .inl g_RoadError⟩ takes0 (fun W pn xe tk _ => (pss_one (ps_if (pt_cmpR op_eq (pv 0) pe_int rfl) (pss_one (ps_expr (pe_cxS x1 hr (by decide) (by rfl) tk (pa_cons (pv 1) (pa_cons (pv 2) pa_nil))))) (pss_one (ps_if (pt_cmpR op_eq (pv 0) pe_int rfl) (pss_one (ps_expr (pe_cxS x2 hr (by decide) (by rfl) tk (pa_cons (pv 1) (pa_cons (pv 2) pa_nil))))) (pss_one (ps_expr (pe_cxS x3 hr (by decide) (by rfl) tk (pa_cons (pv 0) (pa_cons (pv 1) (pa_cons (pv 2) pa_nil))))))))))) (fun a oe cls d pn hz hf => (pss_cons (ps_set (i := 4) sc__law_told.nd rfl (Or.inl rfl) (pe_lst (pa_cons (pe_callB (call_isX (K := K) hz hf) (by rfl) B.isinstance bt_isinstance (pa_cons (pv 3) (pa_cons (pe_cls (by rfl) g_BadCars) pa_nil))) (pa_cons (pe_callB (call_isX (K := K) hz hf) (by rfl) B.isinstance bt_isinstance (pa_cons (pv 3) (pa_cons (pe_cls (by rfl) g_BadCar) pa_nil))) (pa_cons (pe_callB (call_isX (K := K) hz hf) (by rfl) B.isinstance bt_isinstance (pa_cons (pv 3) (pa_cons (pe_cls (by rfl) g_BadSteps) pa_nil))) pa_nil))))) (pss_one (ps_ret (pe_op op_cat (pv 4) (pe_lst (pa_cons (pe_callB (call_isX (K := K) hz hf) (by rfl) B.isinstance bt_isinstance (pa_cons (pv 3) (pa_cons (pe_cls (by rfl) g_BadRing) pa_nil))) (pa_cons (pe_callB (call_isX (K := K) hz hf) (by rfl) B.isinstance bt_isinstance (pa_cons (pv 3) (pa_cons (pe_ty (by rfl) zVE bt_ValueError) pa_nil))) pa_nil))))))))) (pss_one (ps_ret (pe_lst pa_nil)))), ?_⟩
    have fin : ∀ (D : Addr) (b1 b2 b3 b4 : Bool), TellC K D C1 C2 C3 C4 CE b1 b2 b3 b4 → toldL k = [.bl b1, .bl b2, .bl b3, .bl b4, .bl true] → ∀ H', Same H H' → wAs K (.ref CE) 3 (fun a cls d => tSeq (tAsg (tLst (tCons (tCB (rIsX K cls d a) (tCons (tVar 3) (tCons (tC (.ref C1)) tNil))) (tCons (tCB (rIsX K cls d a) (tCons (tVar 3) (tCons (tC (.ref C2)) tNil))) (tCons (tCB (rIsX K cls d a) (tCons (tVar 3) (tCons (tC (.ref C3)) tNil))) tNil)))) (gName 4))
        (tRet (tOp rCat (tVar 4) (tLst (tCons (tCB (rIsX K cls d a) (tCons (tVar 3) (tCons (tC (.ref C4)) tNil))) (tCons (tCB (rIsX K cls d a) (tCons (tVar 3) (tCons (tC (.ty "ValueError")) tNil))) tNil)))))) (fun _ _ _ _ => False)
        { nx := fun σ1 H1 => tRet (tLst tNil) { nx := fun _ H' => Q .non H', rt := Q } σ1 H1, rt := Q } (.ref D) none [some (.int k), some (.int wh), some (.int m), none, none] H' := by
      intro D b1 b2 b3 b4 T eT H1 s1
      refine ⟨true, T.ex, fun _ a0 _ => ?_, fun z => Bool.noConfusion z⟩
      refine ⟨_, rfl, D, rfl, rfl, T.xc, .ref C1, .ref C1, b1, rfl, fun u h => h, T.k1, ?_⟩
      refine ⟨_, rfl, D, rfl, rfl, T.xc, .ref C2, .ref C2, b2, rfl, fun u h => h, T.k2, ?_⟩
      refine ⟨_, rfl, D, rfl, rfl, T.xc, .ref C3, .ref C3, b3, rfl, fun u h => h, T.k3, ?_⟩
      refine ⟨(show 3 ≤ sizeLine by decide), fun l1 n1 => ?_⟩
      have s2 := same_new (o := .lst [.bl b1, .bl b2, .bl b3]) n1
      refine ⟨_, rfl, _, rfl, D, rfl, rfl, T.xc, .ref C4, .ref C4, b4, rfl, fun u h => h, T.k4, ?_⟩
      refine ⟨_, rfl, D, rfl, rfl, T.xc, .ty "ValueError", .type "ValueError", true, rfl, fun u h => h, T.kv, ?_⟩
      refine ⟨(show 2 ≤ sizeLine by decide), fun l2 n2 => ?_⟩
      have s3 := same_new (o := .lst [.bl b4, .bl true]) n2
      refine ⟨l1, l2, _, _, rfl, rfl, s3 _ _ upd_same, upd_same, (show 5 ≤ sizeLine by decide), fun p np => ?_⟩
      refine q _ p (s1.trans (s2.trans (s3.trans (same_new np)))) ?_
      rw [eT]
      exact upd_same
    have d0 : ∀ u v : Int, u ≠ v → decide (V.int u = V.int v) = false := fun u v h => decide_eq_false fun z => h (V.int.inj z)
    have d1 : ∀ u : Int, decide (V.int u = V.int u) = true := fun u => decide_eq_true rfl
    refine ⟨_, rfl, rfl, _, rfl, ite2 (fun e => ?_) (fun e => ?_)⟩
    · have ek := V.int.inj (of_decide_eq_true e)
      have eT : toldL k = [.bl true, .bl false, .bl false, .bl false, .bl true] := by
        subst ek
        rfl
      exact ⟨_, rfl, _, rfl, wh, m, rfl, hm, fin C1 _ _ _ _ T1 eT⟩
    · have n0 : k ≠ 0 := fun z => e (by rw [z]; exact d1 0)
      refine ⟨_, rfl, rfl, _, rfl, ite2 (fun e => ?_) (fun e => ?_)⟩
      · have ek := V.int.inj (of_decide_eq_true e)
        have eT : toldL k = [.bl false, .bl true, .bl false, .bl false, .bl true] := by
          subst ek
          rfl
        exact ⟨_, rfl, _, rfl, wh, m, rfl, hm, fin C2 _ _ _ _ T2 eT⟩
      · have n1 : k ≠ 1 := fun z => e (by rw [z]; exact d1 1)
        refine ⟨_, rfl, _, rfl, _, rfl, k, wh, m, rfl, hm, ?_⟩
        by_cases ek : k = 2
        · have eT : toldL k = [.bl false, .bl false, .bl true, .bl false, .bl true] := by
            subst ek
            rfl
          exact .inl ⟨ek, fin C3 _ _ _ _ T3 eT⟩
        · have ek : k = 3 := by omega
          have eT : toldL k = [.bl false, .bl false, .bl false, .bl true, .bl true] := by
            subst ek
            rfl
          exact .inr ⟨ek, fin C4 _ _ _ _ T4 eT⟩
/-! ### the law -/
theorem ne_told {H : Hp} {a b : Addr} {k : Int} {Q : VK} (ha : SqL K H a (toldL k)) (hb : SqL K H b (toldL k)) (q : Q (.bl false) H) : rNeD K (.ref a) (.ref b) H Q := by
  generalize e1 : decide (V.int k = V.int 0) = b1
  generalize e2 : decide (V.int k = V.int 1) = b2
  generalize e3 : decide (V.int k = V.int 2) = b3
  generalize e4 : decide (V.int k = V.int 3) = b4
  have eL : toldL k = [.bl b1, .bl b2, .bl b3, .bl b4, .bl true] := by
    unfold toldL
    rw [e1, e2, e3, e4]
  rw [eL] at ha hb
  refine ⟨.list [.bool b1, .bool b2, .bool b3, .bool b4, .bool true], .list [.bool b1, .bool b2, .bool b3, .bool b4, .bool true], .lst ha (.cons (.bl _) (.cons (.bl _) (.cons (.bl _) (.cons (.bl _) (.cons (.bl _) .nil))))), .lst hb (.cons (.bl _) (.cons (.bl _) (.cons (.bl _) (.cons (.bl _) (.cons (.bl _) .nil))))), rfl, rfl, ?_⟩
  have e : PyData.eqv (.list [.bool b1, .bool b2, .bool b3, .bool b4, .bool true]) (.list [.bool b1, .bool b2, .bool b3, .bool b4, .bool true]) = true := by simp [PyData.eqv, PyData.eqvAll]
  rw [e]
  exact q
theorem stt_one (c : Nat → Int) : ∀ t : Nat, stt 1 c t 0 = c 0 + (t : Int)
  | 0 => by
    show c 0 = _
    omega
  | t + 1 => by
    show stepF 1 (stt 1 c t) 0 = _
    unfold stepF
    rw [if_neg (by omega), stt_one c t]
    omega
theorem tx_d : tx 1 (fun _ => false) = ("." : Str) := by decide +kernel
theorem tx_c : tx 1 (fun _ => true) = ("c" : Str) := by decide +kernel
theorem tx_cd : tx 2 (fun p => decide (p % 2 = 0)) = ("c." : Str) := by decide +kernel
theorem per_cd : Per 2 (fun p => decide (p % 2 = 0)) := fun p => by
  show decide ((p + ((2 : Nat) : Int)) % 2 = 0) = decide (p % 2 = 0)
  rw [show (p + ((2 : Nat) : Int)) % 2 = p % 2 by omega]
theorem tx_ccd : tx 3 (fun p => decide (p % 3 ≠ 2)) = ("cc." : Str) := by decide +kernel
theorem per_ccd : Per 3 (fun p => decide (p % 3 ≠ 2)) := fun p => by
  show decide ((p + ((3 : Nat) : Int)) % 3 ≠ 2) = decide (p % 3 ≠ 2)
  rw [show (p + ((3 : Nat) : Int)) % 3 = p % 3 by omega]
theorem tx_cdc1 : tx 3 (its (fun p => decide (p % 3 ≠ 2)) 1) = ("c.c" : Str) := by decide +kernel
theorem most_cd : most 2 (fun p => decide (p % 2 = 0)) = 1 := by decide +kernel
/-! ### the law -/
abbrev s_law : Stmt := topS 41
theorem sc_law : FnScope ["_law_script", "_law_cell", "_law_kind", "_law_due"] ["_law_script"] (defScope s_law) := ⟨rfl, rfl, rfl, by decide +kernel, rfl, by decide +kernel, by decide +kernel⟩
def spLaw (K : PySem.W.Frag) : Sp := fun vs H Q _ => ∃ (a : Addr) (ns : List Int), vs = [.ref a] ∧ SqL K H a (ns.map V.int) ∧ ns.length ≤ 63 ∧ ∀ H', Q (.bl true) H'
theorem ok_law {f : Addr} {fd : FuncData} (F : Fun K "law" "law" s_law f fd) (B : Blt mg) (c__law_told : Cal P w K mg base 6 "_law_told" spTold) (c_stepped : Cal P w K mg base 3 "stepped" (spStepped K)) (c_delays : Cal P w K mg base 3 "delays" (spDelays K)) (c_free_from : Cal P w K mg base 3 "free_from" (spFreeFrom K)) (c_after : Cal P w K mg base 3 "after" (spAfter K))
    (c_settled : Cal P w K mg base 2 "settled" spSettled) (c_flow : Cal P w K mg base 4 "flow" spFlow) (c_around_after : Cal P w K mg base 3 "around_after" spAfterR) : FnOk P w K mg base CX0 7 f fd ["_law_script"] (spLaw K) := by
  refine F.ok sc_law (fun vs H Q E h => ?_) (fun cdv A outer s H vs Q E hr h => ?_)
  · obtain ⟨a, ns, rfl, _⟩ := h
    rfl
  · obtain ⟨a, ns, rfl, hS, hns, q⟩ := h
    refine ⟨_, (pss_cons (ps_for PassesOwn.never rfl (pi_list (pv 0)) (pg_name (i := 1) sc_law.nd rfl (Or.inl rfl)) (pss_cons (ps_set (i := 2) sc_law.nd rfl (Or.inl rfl) (pe_op op_modN (pv 1) pe_int)) (pss_cons (ps_set (i := 3) sc_law.nd rfl (Or.inl rfl) (pe_lst (pa_cons (pe_cmpR op_eq (pv 2) pe_int rfl) (pa_cons (pe_cmpR op_eq (pv 2) pe_int rfl) (pa_cons (pe_cmpR op_eq (pv 2) pe_int rfl) (pa_cons (pe_cmpR op_eq (pv 2) pe_int rfl) (pa_cons pe_bl pa_nil))))))) (pss_one (ps_if (pt_cmpR (neK K hr.units) (pe_c c__law_told hr (by decide) (by rfl) (pa_cons (pv 2) (pa_cons (pe_op op_modN (pe_op op_fdivN (pv 1) pe_int) pe_int) (pa_cons (pe_op op_modN (pe_op op_fdivN (pv 1) pe_int) pe_int) pa_nil)))) (pv 3) rfl) (pss_one (ps_ret pe_bl)) pss_nil))))) (pss_cons (ps_if (PW.pt (pw_or (pt_cmpR (neK K hr.units) (pe_c c_stepped hr (by decide) (by rfl) (pa_cons (pe_lst pa_nil) pa_nil)) (pe_lst pa_nil) rfl) (pw_or (pt_cmpR (neK K hr.units) (pe_c c_delays hr (by decide) (by rfl) (pa_cons (pe_lst pa_nil) pa_nil)) (pe_lst pa_nil) rfl) (pw_or (pt_cmpR (neK K hr.units) (pe_c c_free_from hr (by decide) (by rfl) (pa_cons (pe_lst pa_nil) pa_nil)) (pe_lst pa_nil) rfl) (pw_or1 (pt_cmpR (neK K hr.units) (pe_c c_after hr (by decide) (by rfl) (pa_cons (pe_lst (pa_cons (pe_un un_neg pe_int) pa_nil)) (pa_cons (pe_op op_pow pe_int pe_int) pa_nil))) (pe_lst (pa_cons (pe_op op_sub (pe_op op_pow pe_int pe_int) pe_int) pa_nil)) rfl)))))) (pss_one (ps_ret pe_bl)) pss_nil) (pss_one (ps_ret (pe_and (pe_cmpR op_eq (pe_c c_settled hr (by decide) (by rfl) (pa_cons pe_str pa_nil)) pe_int rfl) (pe_and (pe_cmpR op_eq (pe_c c_settled hr (by decide) (by rfl) (pa_cons pe_str pa_nil)) pe_int rfl) (pe_and (pe_cmpR op_eq (pe_c c_flow hr (by decide) (by rfl) (pa_cons pe_str (pa_cons (pe_op op_pow pe_int pe_int) pa_nil))) pe_int rfl) (pe_one (pe_cmpR op_eq (pe_c c_around_after hr (by decide) (by rfl) (pa_cons pe_str (pa_cons pe_int pa_nil))) pe_str rfl))))))))), ?_⟩
    rw [iL_of] at hS
    refine ⟨_, rfl, a, rfl, ⟨_, hS⟩, for_it (walk_iL (n := ns.length) (c := fun i => ns.getD i 0)) (fun i σ H' => ∃ y1 y2 y3, σ = [some (.ref a), y1, y2, y3] ∧ Same H H')
      ⟨none, none, none, rfl, Same.refl _⟩ (fun i σ H' _ pv => ?_) (fun i x σ H1 H2 hi pv y => ?_) (fun σ H1 pv => ?_)⟩
    · obtain ⟨_, _, _, _, sm⟩ := pv
      exact sm.seq hS
    · obtain ⟨y1, y2, y3, rfl, sm⟩ := pv
      obtain ⟨rfl, rfl⟩ := y
      generalize ns.getD i 0 = z
      obtain ⟨k, hk, ek⟩ := rests z 4 (by decide) (z := 4) rfl
      refine ⟨_, rfl, _, _, rfl, rfl, (show (4 : Int) ≠ 0 by decide), ?_⟩
      refine ⟨_, rfl, rfl, _, rfl, rfl, _, rfl, rfl, _, rfl, rfl, (show 5 ≤ sizeLine by decide), fun l1 n1 => ?_⟩
      have s1 := same_new (o := .lst (toldL (z.fmod 4))) n1
      have m0 : 0 ≤ (z.fdiv 400000).fmod 1000 := Int.fmod_nonneg_of_pos _ (by decide)
      refine ⟨_, rfl, _, rfl, _, _, rfl, rfl, ⟨by decide, by decide⟩, _, _, rfl, rfl, (show (100000 : Int) ≠ 0 by decide), _, rfl, _, _, rfl, rfl, ⟨by decide, by decide⟩, _, _, rfl, rfl, (show (1000 : Int) ≠ 0 by decide), z.fmod 4, (z.fdiv 4).fmod 100000, (z.fdiv 400000).fmod 1000, rfl, by omega, by omega, m0, fun H3 p s3 ep => ?_⟩
      refine ⟨_, rfl, ne_told (k := z.fmod 4) (SqL.of ep) (SqL.of (s3 _ _ upd_same)) ⟨_, rfl, ?_⟩⟩
      exact ⟨_, _, _, rfl, sm.trans (s1.trans s3)⟩
    · obtain ⟨y1, y2, y3, rfl, sm⟩ := pv
      have r0 : Rising 0 fun _ => 0 := fun i hi => absurd hi (Nat.not_lt_zero _)
      -- stepped([]) != []
      refine ⟨Nat.zero_le _, fun l1 n1 => ⟨l1, 0, fun _ => 0, rfl, SqL.of upd_same, r0, by decide, fun H2 p2 s2 np2 e2 => ⟨Nat.zero_le _, fun q2 nq2 => ?_⟩⟩⟩
      refine iL_ne (n := 0) (c := stepF 0 fun _ => 0) (d := fun _ => 0) (SqL.of ((same_new nq2) _ _ e2)) (SqL.of upd_same) (fun i hi => absurd hi (Nat.not_lt_zero _)) ⟨_, rfl, ?_⟩
      -- delays([]) != []
      refine ⟨Nat.zero_le _, fun l3 n3 => ⟨l3, 0, fun _ => 0, rfl, SqL.of upd_same, r0, by decide, fun H4 p4 s4 np4 e4 => ⟨Nat.zero_le _, fun q4 nq4 => ?_⟩⟩⟩
      refine iL_ne (n := 0) (c := dly 0 fun _ => 0) (d := fun _ => 0) (SqL.of ((same_new nq4) _ _ e4)) (SqL.of upd_same) (fun i hi => absurd hi (Nat.not_lt_zero _)) ⟨_, rfl, ?_⟩
      -- free_from([]) != []
      refine ⟨Nat.zero_le _, fun l5 n5 => ⟨l5, 0, fun _ => 0, rfl, SqL.of upd_same, r0, by decide, fun H6 p6 s6 np6 e6 => ⟨Nat.zero_le _, fun q6 nq6 => ?_⟩⟩⟩
      refine iL_ne (n := 0) (c := fun i => (fre 0 (fun _ => 0) i 0 : Int)) (d := fun _ => 0) (SqL.of ((same_new nq6) _ _ e6)) (SqL.of upd_same) (fun i hi => absurd hi (Nat.not_lt_zero _)) ⟨_, rfl, ?_⟩
      -- after([-5], 10 ** 30) != [10 ** 30 - 5]
      obtain ⟨T, hT, hT1⟩ : ∃ T : Nat, (10 : Int) ^ (30 : Int).toNat = (T : Int) ∧ 1 ≤ T := ⟨(10 ^ (30 : Int).toNat : Int).toNat, by decide +kernel, by decide +kernel⟩
      have t1 : ∀ v : V, [v, V.int ((10 : Int) ^ (30 : Int).toNat)] = [v, V.int (T : Int)] := fun v => by rw [hT]
      refine ⟨_, rfl, (show 1 ≤ sizeLine by decide), fun l7 n7 => ⟨_, _, rfl, rfl, ⟨by decide, by decide, by decide⟩, l7, 1, fun _ => -5, T, t1 _, SqL.of upd_same, (fun i hi => absurd hi (by omega)), by decide, fun H8 p8 s8 np8 e8 => ?_⟩⟩
      refine ⟨_, _, rfl, rfl, ⟨by decide, by decide, by decide⟩, _, _, rfl, rfl, (show 1 ≤ sizeLine by decide), fun q8 nq8 => ?_⟩
      refine iL_ne (n := 1) (c := stt 1 (fun _ => -5) T) (d := fun _ => (10 : Int) ^ (30 : Int).toNat - 5) (SqL.of ((same_new nq8) _ _ e8)) (SqL.of upd_same) (fun i hi => ?_) ⟨_, rfl, ?_⟩
      · have e0 : i = 0 := by omega
        subst e0
        rw [stt_one, hT]
        omega
      -- settled('.') == 0 and settled('c') == 0
      refine ⟨1, fun _ => false, congrArg (fun z => [V.str z]) tx_d.symm, fun _ => rfl, by decide, by decide, fun k1 H9 s9 hk1 _ _ => ⟨rfl, _, rfl, ite2 (fun _ => ?_) (fun e => ?_)⟩⟩
      rotate_left
      · have e0 : k1 = 0 := by omega
        subst e0
        exact absurd (decide_eq_true rfl) e
      refine ⟨1, fun _ => true, congrArg (fun z => [V.str z]) tx_c.symm, fun _ => rfl, by decide, by decide, fun k2 H10 s10 hk2 _ _ => ⟨rfl, _, rfl, ite2 (fun _ => ?_) (fun e => ?_)⟩⟩
      rotate_left
      · have e0 : k2 = 0 := by omega
        subst e0
        exact absurd (decide_eq_true rfl) e
      -- flow('c.', 10 ** 30) == 1
      have t2 : [V.str ("c." : Str), V.int ((10 : Int) ^ (30 : Int).toNat)] = [V.str (tx 2 (fun p => decide (p % 2 = 0))), V.int (T : Int)] := by rw [hT, tx_cd]
      have ef : flw 2 (its (fun p => decide (p % 2 = 0)) T) = 1 := by rw [flw_settled per_cd (by decide) (by omega), most_cd]
      refine ⟨_, _, rfl, rfl, ⟨by decide, by decide, by decide⟩, 2, (fun p => decide (p % 2 = 0)), T, t2, per_cd, by decide, by decide, fun H11 s11 => ⟨rfl, _, rfl, ite2 (fun _ => ?_) (fun e => ?_)⟩⟩
      rotate_left
      · have e : ¬ decide (V.int ((flw 2 (its (fun p => decide (p % 2 = 0)) T) : Nat) : Int) = V.int 1) = true := e
        rw [ef] at e
        exact absurd (decide_eq_true rfl) e
      -- around_after('cc.', 1) == 'c.c'
      refine ⟨3, (fun p => decide (p % 3 ≠ 2)), 1, congrArg (fun z => [V.str z, V.int 1]) tx_ccd.symm, per_ccd, by decide, by decide, fun H12 s12 => ⟨rfl, ?_⟩⟩
      show Q (.bl (decide (V.str (tx 3 (its (fun p => decide (p % 3 ≠ 2)) 1)) = V.str ("c.c" : Str)))) H12
      rw [tx_cdc1, decide_eq_true rfl]
      exact q _
end
end JR

/-! ### what the top has written; the head -/
namespace JR
open PySem PySem.Spec PyProof.Rows L2
theorem all_mk {l : PySem.W.OpenLaw} {w : World} {K : PySem.W.Frag} {h : Heap} {mg : Str → Option Value} {fa : Addr} (X : K.In h) (G : h.Ns mainGlobals mg) (hfa : mg "law" = some (.ref fa))
    {C_BadCars C_BadCar C_BadSteps C_BadRing C_RoadError : Addr}
    (aC_BadCars : PySem.W.nsIn K mainGlobals "BadCars" = some (some (.ref C_BadCars)))
    (b_BadCars : PySem.W.subIn K (.ref C_BadCars) (.type "BaseException") = some true)
    (t_BadCars : PySem.W.typeIn K (.ref C_BadCars) = some (.type "type"))
    (ic_BadCars : PySem.W.isClsIn K C_BadCars = true)
    (aC_BadCar : PySem.W.nsIn K mainGlobals "BadCar" = some (some (.ref C_BadCar)))
    (b_BadCar : PySem.W.subIn K (.ref C_BadCar) (.type "BaseException") = some true)
    (t_BadCar : PySem.W.typeIn K (.ref C_BadCar) = some (.type "type"))
    (ic_BadCar : PySem.W.isClsIn K C_BadCar = true)
    (aC_BadSteps : PySem.W.nsIn K mainGlobals "BadSteps" = some (some (.ref C_BadSteps)))
    (b_BadSteps : PySem.W.subIn K (.ref C_BadSteps) (.type "BaseException") = some true)
    (t_BadSteps : PySem.W.typeIn K (.ref C_BadSteps) = some (.type "type"))
    (ic_BadSteps : PySem.W.isClsIn K C_BadSteps = true)
    (aC_BadRing : PySem.W.nsIn K mainGlobals "BadRing" = some (some (.ref C_BadRing)))
    (b_BadRing : PySem.W.subIn K (.ref C_BadRing) (.type "BaseException") = some true)
    (t_BadRing : PySem.W.typeIn K (.ref C_BadRing) = some (.type "type"))
    (ic_BadRing : PySem.W.isClsIn K C_BadRing = true)
    (aC_RoadError : PySem.W.nsIn K mainGlobals "RoadError" = some (some (.ref C_RoadError)))
    (b_RoadError : PySem.W.subIn K (.ref C_RoadError) (.type "BaseException") = some true)
    (t_RoadError : PySem.W.typeIn K (.ref C_RoadError) = some (.type "type"))
    (ic_RoadError : PySem.W.isClsIn K C_RoadError = true)
    (xn_BadCars : PySem.W.excIn K C_BadCars [.type "ValueError", .type "Exception", .type "BaseException", .type "object"] "ValueError.__new__" = true)
    (k_BadCars : PySem.W.keepIn K (.ref C_BadCars) = true)
    (hg_BadCars : PySem.W.findIn K (.ref C_BadCars) "__getattribute__" = some (some (.builtin "BaseException.__getattribute__")))
    (hk_BadCars : PySem.W.findIn K (.ref C_BadCars) "__getattr__" = some none)
    (hd_BadCars : PySem.W.hasDictIn K C_BadCars = true)
    (ha_BadCars : PySem.W.findIn K (.ref C_BadCars) "__class__" = some (some (.builtin "object.__class__")))
    (hm_BadCars : PySem.W.mroIn K C_BadCars (.type "object") = some true)
    (sv_BadCars : PySem.W.subIn K (.ref C_BadCars) (.type "ValueError") = some true)
    (sr_BadCars : PySem.W.subIn K (.ref C_BadCars) (.ref C_RoadError) = some true)
    (s_BadCars_BadCars : PySem.W.subIn K (.ref C_BadCars) (.ref C_BadCars) = some true)
    (s_BadCars_BadCar : PySem.W.subIn K (.ref C_BadCars) (.ref C_BadCar) = some false)
    (s_BadCars_BadSteps : PySem.W.subIn K (.ref C_BadCars) (.ref C_BadSteps) = some false)
    (s_BadCars_BadRing : PySem.W.subIn K (.ref C_BadCars) (.ref C_BadRing) = some false)
    (xn_BadCar : PySem.W.excIn K C_BadCar [.type "ValueError", .type "Exception", .type "BaseException", .type "object"] "ValueError.__new__" = true)
    (k_BadCar : PySem.W.keepIn K (.ref C_BadCar) = true)
    (hg_BadCar : PySem.W.findIn K (.ref C_BadCar) "__getattribute__" = some (some (.builtin "BaseException.__getattribute__")))
    (hk_BadCar : PySem.W.findIn K (.ref C_BadCar) "__getattr__" = some none)
    (hd_BadCar : PySem.W.hasDictIn K C_BadCar = true)
    (ha_BadCar : PySem.W.findIn K (.ref C_BadCar) "__class__" = some (some (.builtin "object.__class__")))
    (hm_BadCar : PySem.W.mroIn K C_BadCar (.type "object") = some true)
    (sv_BadCar : PySem.W.subIn K (.ref C_BadCar) (.type "ValueError") = some true)
    (sr_BadCar : PySem.W.subIn K (.ref C_BadCar) (.ref C_RoadError) = some true)
    (s_BadCar_BadCars : PySem.W.subIn K (.ref C_BadCar) (.ref C_BadCars) = some false)
    (s_BadCar_BadCar : PySem.W.subIn K (.ref C_BadCar) (.ref C_BadCar) = some true)
    (s_BadCar_BadSteps : PySem.W.subIn K (.ref C_BadCar) (.ref C_BadSteps) = some false)
    (s_BadCar_BadRing : PySem.W.subIn K (.ref C_BadCar) (.ref C_BadRing) = some false)
    (xn_BadSteps : PySem.W.excIn K C_BadSteps [.type "ValueError", .type "Exception", .type "BaseException", .type "object"] "ValueError.__new__" = true)
    (k_BadSteps : PySem.W.keepIn K (.ref C_BadSteps) = true)
    (hg_BadSteps : PySem.W.findIn K (.ref C_BadSteps) "__getattribute__" = some (some (.builtin "BaseException.__getattribute__")))
    (hk_BadSteps : PySem.W.findIn K (.ref C_BadSteps) "__getattr__" = some none)
    (hd_BadSteps : PySem.W.hasDictIn K C_BadSteps = true)
    (ha_BadSteps : PySem.W.findIn K (.ref C_BadSteps) "__class__" = some (some (.builtin "object.__class__")))
    (hm_BadSteps : PySem.W.mroIn K C_BadSteps (.type "object") = some true)
    (sv_BadSteps : PySem.W.subIn K (.ref C_BadSteps) (.type "ValueError") = some true)
    (sr_BadSteps : PySem.W.subIn K (.ref C_BadSteps) (.ref C_RoadError) = some true)
    (s_BadSteps_BadCars : PySem.W.subIn K (.ref C_BadSteps) (.ref C_BadCars) = some false)
    (s_BadSteps_BadCar : PySem.W.subIn K (.ref C_BadSteps) (.ref C_BadCar) = some false)
    (s_BadSteps_BadSteps : PySem.W.subIn K (.ref C_BadSteps) (.ref C_BadSteps) = some true)
    (s_BadSteps_BadRing : PySem.W.subIn K (.ref C_BadSteps) (.ref C_BadRing) = some false)
    (xn_BadRing : PySem.W.excIn K C_BadRing [.type "ValueError", .type "Exception", .type "BaseException", .type "object"] "ValueError.__new__" = true)
    (k_BadRing : PySem.W.keepIn K (.ref C_BadRing) = true)
    (hg_BadRing : PySem.W.findIn K (.ref C_BadRing) "__getattribute__" = some (some (.builtin "BaseException.__getattribute__")))
    (hk_BadRing : PySem.W.findIn K (.ref C_BadRing) "__getattr__" = some none)
    (hd_BadRing : PySem.W.hasDictIn K C_BadRing = true)
    (ha_BadRing : PySem.W.findIn K (.ref C_BadRing) "__class__" = some (some (.builtin "object.__class__")))
    (hm_BadRing : PySem.W.mroIn K C_BadRing (.type "object") = some true)
    (sv_BadRing : PySem.W.subIn K (.ref C_BadRing) (.type "ValueError") = some true)
    (sr_BadRing : PySem.W.subIn K (.ref C_BadRing) (.ref C_RoadError) = some true)
    (s_BadRing_BadCars : PySem.W.subIn K (.ref C_BadRing) (.ref C_BadCars) = some false)
    (s_BadRing_BadCar : PySem.W.subIn K (.ref C_BadRing) (.ref C_BadCar) = some false)
    (s_BadRing_BadSteps : PySem.W.subIn K (.ref C_BadRing) (.ref C_BadSteps) = some false)
    (s_BadRing_BadRing : PySem.W.subIn K (.ref C_BadRing) (.ref C_BadRing) = some true)
    (hn : PySem.W.specialIn K (.builtin "object.__class__") "__get__" = some (some (.builtin "getset_descriptor.__get__")))
    (htk : PySem.W.takesIn K (.builtin "object.__class__") = some true)
    {f0 : Addr} {od0 an0 : Option Addr} {sl0 : Array (Option Value)} {oc0 kV0 dc0 pm0 cd0 ct0 : Value}
    (a0 : PySem.W.nsIn K mainGlobals "is_number" = some (some (.ref f0)))
    (l0 : K.lookup f0 = some ⟨oc0, od0, .func (PySem.W.fnOf "is_number" "is_number" (defArgs s_is_number) (defBody s_is_number) (defScope s_is_number) .none kV0 dc0 pm0 an0 cd0 ct0), sl0⟩)
    (c0 : PySem.W.codeIn K cd0 "is_number" = true)
    (k0 : PySem.W.keepIn K (.ref f0) = true)
    {f1 : Addr} {od1 an1 : Option Addr} {sl1 : Array (Option Value)} {oc1 kV1 dc1 pm1 cd1 ct1 : Value}
    (a1 : PySem.W.nsIn K mainGlobals "asked_cars" = some (some (.ref f1)))
    (l1 : K.lookup f1 = some ⟨oc1, od1, .func (PySem.W.fnOf "asked_cars" "asked_cars" (defArgs s_asked_cars) (defBody s_asked_cars) (defScope s_asked_cars) .none kV1 dc1 pm1 an1 cd1 ct1), sl1⟩)
    (c1 : PySem.W.codeIn K cd1 "asked_cars" = true)
    (k1 : PySem.W.keepIn K (.ref f1) = true)
    {f2 : Addr} {od2 an2 : Option Addr} {sl2 : Array (Option Value)} {oc2 kV2 dc2 pm2 cd2 ct2 : Value}
    (a2 : PySem.W.nsIn K mainGlobals "asked_steps" = some (some (.ref f2)))
    (l2 : K.lookup f2 = some ⟨oc2, od2, .func (PySem.W.fnOf "asked_steps" "asked_steps" (defArgs s_asked_steps) (defBody s_asked_steps) (defScope s_asked_steps) .none kV2 dc2 pm2 an2 cd2 ct2), sl2⟩)
    (c2 : PySem.W.codeIn K cd2 "asked_steps" = true)
    (k2 : PySem.W.keepIn K (.ref f2) = true)
    {f3 : Addr} {od3 an3 : Option Addr} {sl3 : Array (Option Value)} {oc3 kV3 dc3 pm3 cd3 ct3 : Value}
    (a3 : PySem.W.nsIn K mainGlobals "asked_car" = some (some (.ref f3)))
    (l3 : K.lookup f3 = some ⟨oc3, od3, .func (PySem.W.fnOf "asked_car" "asked_car" (defArgs s_asked_car) (defBody s_asked_car) (defScope s_asked_car) .none kV3 dc3 pm3 an3 cd3 ct3), sl3⟩)
    (c3 : PySem.W.codeIn K cd3 "asked_car" = true)
    (k3 : PySem.W.keepIn K (.ref f3) = true)
    {f4 : Addr} {od4 an4 : Option Addr} {sl4 : Array (Option Value)} {oc4 kV4 dc4 pm4 cd4 ct4 : Value}
    (a4 : PySem.W.nsIn K mainGlobals "stepped" = some (some (.ref f4)))
    (l4 : K.lookup f4 = some ⟨oc4, od4, .func (PySem.W.fnOf "stepped" "stepped" (defArgs s_stepped) (defBody s_stepped) (defScope s_stepped) .none kV4 dc4 pm4 an4 cd4 ct4), sl4⟩)
    (c4 : PySem.W.codeIn K cd4 "stepped" = true)
    (k4 : PySem.W.keepIn K (.ref f4) = true)
    {f5 : Addr} {od5 an5 : Option Addr} {sl5 : Array (Option Value)} {oc5 kV5 dc5 pm5 cd5 ct5 : Value}
    (a5 : PySem.W.nsIn K mainGlobals "leans" = some (some (.ref f5)))
    (l5 : K.lookup f5 = some ⟨oc5, od5, .func (PySem.W.fnOf "leans" "leans" (defArgs s_leans) (defBody s_leans) (defScope s_leans) .none kV5 dc5 pm5 an5 cd5 ct5), sl5⟩)
    (c5 : PySem.W.codeIn K cd5 "leans" = true)
    (k5 : PySem.W.keepIn K (.ref f5) = true)
    {f6 : Addr} {od6 an6 : Option Addr} {sl6 : Array (Option Value)} {oc6 kV6 dc6 pm6 cd6 ct6 : Value}
    (a6 : PySem.W.nsIn K mainGlobals "holders" = some (some (.ref f6)))
    (l6 : K.lookup f6 = some ⟨oc6, od6, .func (PySem.W.fnOf "holders" "holders" (defArgs s_holders) (defBody s_holders) (defScope s_holders) .none kV6 dc6 pm6 an6 cd6 ct6), sl6⟩)
    (c6 : PySem.W.codeIn K cd6 "holders" = true)
    (k6 : PySem.W.keepIn K (.ref f6) = true)
    {f7 : Addr} {od7 an7 : Option Addr} {sl7 : Array (Option Value)} {oc7 kV7 dc7 pm7 cd7 ct7 : Value}
    (a7 : PySem.W.nsIn K mainGlobals "after" = some (some (.ref f7)))
    (l7 : K.lookup f7 = some ⟨oc7, od7, .func (PySem.W.fnOf "after" "after" (defArgs s_after) (defBody s_after) (defScope s_after) .none kV7 dc7 pm7 an7 cd7 ct7), sl7⟩)
    (c7 : PySem.W.codeIn K cd7 "after" = true)
    (k7 : PySem.W.keepIn K (.ref f7) = true)
    {f8 : Addr} {od8 an8 : Option Addr} {sl8 : Array (Option Value)} {oc8 kV8 dc8 pm8 cd8 ct8 : Value}
    (a8 : PySem.W.nsIn K mainGlobals "delays" = some (some (.ref f8)))
    (l8 : K.lookup f8 = some ⟨oc8, od8, .func (PySem.W.fnOf "delays" "delays" (defArgs s_delays) (defBody s_delays) (defScope s_delays) .none kV8 dc8 pm8 an8 cd8 ct8), sl8⟩)
    (c8 : PySem.W.codeIn K cd8 "delays" = true)
    (k8 : PySem.W.keepIn K (.ref f8) = true)
    {f9 : Addr} {od9 an9 : Option Addr} {sl9 : Array (Option Value)} {oc9 kV9 dc9 pm9 cd9 ct9 : Value}
    (a9 : PySem.W.nsIn K mainGlobals "free_from" = some (some (.ref f9)))
    (l9 : K.lookup f9 = some ⟨oc9, od9, .func (PySem.W.fnOf "free_from" "free_from" (defArgs s_free_from) (defBody s_free_from) (defScope s_free_from) .none kV9 dc9 pm9 an9 cd9 ct9), sl9⟩)
    (c9 : PySem.W.codeIn K cd9 "free_from" = true)
    (k9 : PySem.W.keepIn K (.ref f9) = true)
    {f10 : Addr} {od10 an10 : Option Addr} {sl10 : Array (Option Value)} {oc10 kV10 dc10 pm10 cd10 ct10 : Value}
    (a10 : PySem.W.nsIn K mainGlobals "asked_ring" = some (some (.ref f10)))
    (l10 : K.lookup f10 = some ⟨oc10, od10, .func (PySem.W.fnOf "asked_ring" "asked_ring" (defArgs s_asked_ring) (defBody s_asked_ring) (defScope s_asked_ring) .none kV10 dc10 pm10 an10 cd10 ct10), sl10⟩)
    (c10 : PySem.W.codeIn K cd10 "asked_ring" = true)
    (k10 : PySem.W.keepIn K (.ref f10) = true)
    {f11 : Addr} {od11 an11 : Option Addr} {sl11 : Array (Option Value)} {oc11 kV11 dc11 pm11 cd11 ct11 : Value}
    (a11 : PySem.W.nsIn K mainGlobals "moved" = some (some (.ref f11)))
    (l11 : K.lookup f11 = some ⟨oc11, od11, .func (PySem.W.fnOf "moved" "moved" (defArgs s_moved) (defBody s_moved) (defScope s_moved) .none kV11 dc11 pm11 an11 cd11 ct11), sl11⟩)
    (c11 : PySem.W.codeIn K cd11 "moved" = true)
    (k11 : PySem.W.keepIn K (.ref f11) = true)
    {f12 : Addr} {od12 an12 : Option Addr} {sl12 : Array (Option Value)} {oc12 kV12 dc12 pm12 cd12 ct12 : Value}
    (a12 : PySem.W.nsIn K mainGlobals "turned" = some (some (.ref f12)))
    (l12 : K.lookup f12 = some ⟨oc12, od12, .func (PySem.W.fnOf "turned" "turned" (defArgs s_turned) (defBody s_turned) (defScope s_turned) .none kV12 dc12 pm12 an12 cd12 ct12), sl12⟩)
    (c12 : PySem.W.codeIn K cd12 "turned" = true)
    (k12 : PySem.W.keepIn K (.ref f12) = true)
    {f13 : Addr} {od13 an13 : Option Addr} {sl13 : Array (Option Value)} {oc13 kV13 dc13 pm13 cd13 ct13 : Value}
    (a13 : PySem.W.nsIn K mainGlobals "around_after" = some (some (.ref f13)))
    (l13 : K.lookup f13 = some ⟨oc13, od13, .func (PySem.W.fnOf "around_after" "around_after" (defArgs s_around_after) (defBody s_around_after) (defScope s_around_after) .none kV13 dc13 pm13 an13 cd13 ct13), sl13⟩)
    (c13 : PySem.W.codeIn K cd13 "around_after" = true)
    (k13 : PySem.W.keepIn K (.ref f13) = true)
    {f14 : Addr} {od14 an14 : Option Addr} {sl14 : Array (Option Value)} {oc14 kV14 dc14 pm14 cd14 ct14 : Value}
    (a14 : PySem.W.nsIn K mainGlobals "flow_of" = some (some (.ref f14)))
    (l14 : K.lookup f14 = some ⟨oc14, od14, .func (PySem.W.fnOf "flow_of" "flow_of" (defArgs s_flow_of) (defBody s_flow_of) (defScope s_flow_of) .none kV14 dc14 pm14 an14 cd14 ct14), sl14⟩)
    (c14 : PySem.W.codeIn K cd14 "flow_of" = true)
    (k14 : PySem.W.keepIn K (.ref f14) = true)
    {f15 : Addr} {od15 an15 : Option Addr} {sl15 : Array (Option Value)} {oc15 kV15 dc15 pm15 cd15 ct15 : Value}
    (a15 : PySem.W.nsIn K mainGlobals "flow" = some (some (.ref f15)))
    (l15 : K.lookup f15 = some ⟨oc15, od15, .func (PySem.W.fnOf "flow" "flow" (defArgs s_flow) (defBody s_flow) (defScope s_flow) .none kV15 dc15 pm15 an15 cd15 ct15), sl15⟩)
    (c15 : PySem.W.codeIn K cd15 "flow" = true)
    (k15 : PySem.W.keepIn K (.ref f15) = true)
    {f16 : Addr} {od16 an16 : Option Addr} {sl16 : Array (Option Value)} {oc16 kV16 dc16 pm16 cd16 ct16 : Value}
    (a16 : PySem.W.nsIn K mainGlobals "settled" = some (some (.ref f16)))
    (l16 : K.lookup f16 = some ⟨oc16, od16, .func (PySem.W.fnOf "settled" "settled" (defArgs s_settled) (defBody s_settled) (defScope s_settled) .none kV16 dc16 pm16 an16 cd16 ct16), sl16⟩)
    (c16 : PySem.W.codeIn K cd16 "settled" = true)
    (k16 : PySem.W.keepIn K (.ref f16) = true)
    {f17 : Addr} {od17 an17 : Option Addr} {sl17 : Array (Option Value)} {oc17 kV17 dc17 pm17 cd17 ct17 : Value}
    (a17 : PySem.W.nsIn K mainGlobals "around" = some (some (.ref f17)))
    (l17 : K.lookup f17 = some ⟨oc17, od17, .func (PySem.W.fnOf "around" "around" (defArgs s_around) (defBody s_around) (defScope s_around) .none kV17 dc17 pm17 an17 cd17 ct17), sl17⟩)
    (c17 : PySem.W.codeIn K cd17 "around" = true)
    (k17 : PySem.W.keepIn K (.ref f17) = true)
    {f18 : Addr} {od18 an18 : Option Addr} {sl18 : Array (Option Value)} {oc18 kV18 dc18 pm18 cd18 ct18 : Value}
    (a18 : PySem.W.nsIn K mainGlobals "exchanged" = some (some (.ref f18)))
    (l18 : K.lookup f18 = some ⟨oc18, od18, .func (PySem.W.fnOf "exchanged" "exchanged" (defArgs s_exchanged) (defBody s_exchanged) (defScope s_exchanged) .none kV18 dc18 pm18 an18 cd18 ct18), sl18⟩)
    (c18 : PySem.W.codeIn K cd18 "exchanged" = true)
    (k18 : PySem.W.keepIn K (.ref f18) = true)
    {f19 : Addr} {od19 an19 : Option Addr} {sl19 : Array (Option Value)} {oc19 kV19 dc19 pm19 cd19 ct19 : Value}
    (a19 : PySem.W.nsIn K mainGlobals "held" = some (some (.ref f19)))
    (l19 : K.lookup f19 = some ⟨oc19, od19, .func (PySem.W.fnOf "held" "held" (defArgs s_held) (defBody s_held) (defScope s_held) .none kV19 dc19 pm19 an19 cd19 ct19), sl19⟩)
    (c19 : PySem.W.codeIn K cd19 "held" = true)
    (k19 : PySem.W.keepIn K (.ref f19) = true)
    {f20 : Addr} {od20 an20 : Option Addr} {sl20 : Array (Option Value)} {oc20 kV20 dc20 pm20 cd20 ct20 : Value}
    (a20 : PySem.W.nsIn K mainGlobals "touches" = some (some (.ref f20)))
    (l20 : K.lookup f20 = some ⟨oc20, od20, .func (PySem.W.fnOf "touches" "touches" (defArgs s_touches) (defBody s_touches) (defScope s_touches) .none kV20 dc20 pm20 an20 cd20 ct20), sl20⟩)
    (c20 : PySem.W.codeIn K cd20 "touches" = true)
    (k20 : PySem.W.keepIn K (.ref f20) = true)
    {f21 : Addr} {od21 an21 : Option Addr} {sl21 : Array (Option Value)} {oc21 kV21 dc21 pm21 cd21 ct21 : Value}
    (a21 : PySem.W.nsIn K mainGlobals "_law_cars_asked" = some (some (.ref f21)))
    (l21 : K.lookup f21 = some ⟨oc21, od21, .func (PySem.W.fnOf "_law_cars_asked" "_law_cars_asked" (defArgs s__law_cars_asked) (defBody s__law_cars_asked) (defScope s__law_cars_asked) .none kV21 dc21 pm21 an21 cd21 ct21), sl21⟩)
    (c21 : PySem.W.codeIn K cd21 "_law_cars_asked" = true)
    (k21 : PySem.W.keepIn K (.ref f21) = true)
    {f22 : Addr} {od22 an22 : Option Addr} {sl22 : Array (Option Value)} {oc22 kV22 dc22 pm22 cd22 ct22 : Value}
    (a22 : PySem.W.nsIn K mainGlobals "_law_car_asked" = some (some (.ref f22)))
    (l22 : K.lookup f22 = some ⟨oc22, od22, .func (PySem.W.fnOf "_law_car_asked" "_law_car_asked" (defArgs s__law_car_asked) (defBody s__law_car_asked) (defScope s__law_car_asked) .none kV22 dc22 pm22 an22 cd22 ct22), sl22⟩)
    (c22 : PySem.W.codeIn K cd22 "_law_car_asked" = true)
    (k22 : PySem.W.keepIn K (.ref f22) = true)
    {f23 : Addr} {od23 an23 : Option Addr} {sl23 : Array (Option Value)} {oc23 kV23 dc23 pm23 cd23 ct23 : Value}
    (a23 : PySem.W.nsIn K mainGlobals "_law_others_asked" = some (some (.ref f23)))
    (l23 : K.lookup f23 = some ⟨oc23, od23, .func (PySem.W.fnOf "_law_others_asked" "_law_others_asked" (defArgs s__law_others_asked) (defBody s__law_others_asked) (defScope s__law_others_asked) .none kV23 dc23 pm23 an23 cd23 ct23), sl23⟩)
    (c23 : PySem.W.codeIn K cd23 "_law_others_asked" = true)
    (k23 : PySem.W.keepIn K (.ref f23) = true)
    {f24 : Addr} {od24 an24 : Option Addr} {sl24 : Array (Option Value)} {oc24 kV24 dc24 pm24 cd24 ct24 : Value}
    (a24 : PySem.W.nsIn K mainGlobals "_law_told" = some (some (.ref f24)))
    (l24 : K.lookup f24 = some ⟨oc24, od24, .func (PySem.W.fnOf "_law_told" "_law_told" (defArgs s__law_told) (defBody s__law_told) (defScope s__law_told) .none kV24 dc24 pm24 an24 cd24 ct24), sl24⟩)
    (c24 : PySem.W.codeIn K cd24 "_law_told" = true)
    (k24 : PySem.W.keepIn K (.ref f24) = true)
    {f25 : Addr} {od25 an25 : Option Addr} {sl25 : Array (Option Value)} {oc25 kV25 dc25 pm25 cd25 ct25 : Value}
    (a25 : PySem.W.nsIn K mainGlobals "law" = some (some (.ref f25)))
    (l25 : K.lookup f25 = some ⟨oc25, od25, .func (PySem.W.fnOf "law" "law" (defArgs s_law) (defBody s_law) (defScope s_law) .none kV25 dc25 pm25 an25 cd25 ct25), sl25⟩)
    (c25 : PySem.W.codeIn K cd25 "law" = true)
    (k25 : PySem.W.keepIn K (.ref f25) = true)
    (z_len : PySem.W.nsIn K mainGlobals "len" = some none)
    (z_isinstance : PySem.W.nsIn K mainGlobals "isinstance" = some none)
    (z_int : PySem.W.nsIn K mainGlobals "int" = some none)
    (z_bool : PySem.W.nsIn K mainGlobals "bool" = some none)
    (z_list : PySem.W.nsIn K mainGlobals "list" = some none)
    (z_str : PySem.W.nsIn K mainGlobals "str" = some none)
    (z_all : PySem.W.nsIn K mainGlobals "all" = some none)
    (z_any : PySem.W.nsIn K mainGlobals "any" = some none)
    (z_sum : PySem.W.nsIn K mainGlobals "sum" = some none)
    (z_min : PySem.W.nsIn K mainGlobals "min" = some none)
    (z_max : PySem.W.nsIn K mainGlobals "max" = some none)
    (z_range : PySem.W.nsIn K mainGlobals "range" = some none)
    (z_enumerate : PySem.W.nsIn K mainGlobals "enumerate" = some none)
    (z_reversed : PySem.W.nsIn K mainGlobals "reversed" = some none)
    (z_sorted : PySem.W.nsIn K mainGlobals "sorted" = some none)
    (z_VE : PySem.W.nsIn K mainGlobals "ValueError" = some none)
    : ∃ fd : FuncData, (∀ (s : Shared) (v : Value), BindsTo s fd ⟨[v], []⟩ [("_law_script", v)]) ∧ ∀ base : Heap, K.In base → base.Ns mainGlobals mg → FnOk l.prog w K mg base CX0 7 fa fd ["_law_script"] (spLaw K) := by
  have e := hfa.symm.trans (PySem.W.mg_of X G a25)
  cases e
  have B : Blt mg := ⟨PySem.W.mg_none_of X G z_len, PySem.W.mg_none_of X G z_isinstance, PySem.W.mg_none_of X G z_int, PySem.W.mg_none_of X G z_bool, PySem.W.mg_none_of X G z_list, PySem.W.mg_none_of X G z_str, PySem.W.mg_none_of X G z_all, PySem.W.mg_none_of X G z_any, PySem.W.mg_none_of X G z_sum, PySem.W.mg_none_of X G z_min, PySem.W.mg_none_of X G z_max, PySem.W.mg_none_of X G z_range, PySem.W.mg_none_of X G z_enumerate, PySem.W.mg_none_of X G z_reversed, PySem.W.mg_none_of X G z_sorted⟩
  have E_BadCars : ErrC K mg "BadCars" C_BadCars := ⟨PySem.W.mg_of X G aC_BadCars, xn_BadCars, k_BadCars, b_BadCars, t_BadCars⟩
  have X_BadCars : ExcC K C_BadCars := ⟨hg_BadCars, hk_BadCars, b_BadCars, hd_BadCars, ha_BadCars, hn, htk, hm_BadCars⟩
  have T_BadCars : TellC K C_BadCars C_BadCars C_BadCar C_BadSteps C_BadRing C_RoadError true false false false := ⟨X_BadCars, exm_of2 b_RoadError ic_RoadError t_RoadError sr_BadCars, kit_facts ic_BadCars t_BadCars s_BadCars_BadCars s_BadCars_BadCars, kit_facts ic_BadCar t_BadCar s_BadCars_BadCar s_BadCars_BadCars, kit_facts ic_BadSteps t_BadSteps s_BadCars_BadSteps s_BadCars_BadCars, kit_facts ic_BadRing t_BadRing s_BadCars_BadRing s_BadCars_BadCars, kit_ve sv_BadCars⟩
  have E_BadCar : ErrC K mg "BadCar" C_BadCar := ⟨PySem.W.mg_of X G aC_BadCar, xn_BadCar, k_BadCar, b_BadCar, t_BadCar⟩
  have X_BadCar : ExcC K C_BadCar := ⟨hg_BadCar, hk_BadCar, b_BadCar, hd_BadCar, ha_BadCar, hn, htk, hm_BadCar⟩
  have T_BadCar : TellC K C_BadCar C_BadCars C_BadCar C_BadSteps C_BadRing C_RoadError false true false false := ⟨X_BadCar, exm_of2 b_RoadError ic_RoadError t_RoadError sr_BadCar, kit_facts ic_BadCars t_BadCars s_BadCar_BadCars s_BadCar_BadCar, kit_facts ic_BadCar t_BadCar s_BadCar_BadCar s_BadCar_BadCar, kit_facts ic_BadSteps t_BadSteps s_BadCar_BadSteps s_BadCar_BadCar, kit_facts ic_BadRing t_BadRing s_BadCar_BadRing s_BadCar_BadCar, kit_ve sv_BadCar⟩
  have E_BadSteps : ErrC K mg "BadSteps" C_BadSteps := ⟨PySem.W.mg_of X G aC_BadSteps, xn_BadSteps, k_BadSteps, b_BadSteps, t_BadSteps⟩
  have X_BadSteps : ExcC K C_BadSteps := ⟨hg_BadSteps, hk_BadSteps, b_BadSteps, hd_BadSteps, ha_BadSteps, hn, htk, hm_BadSteps⟩
  have T_BadSteps : TellC K C_BadSteps C_BadCars C_BadCar C_BadSteps C_BadRing C_RoadError false false true false := ⟨X_BadSteps, exm_of2 b_RoadError ic_RoadError t_RoadError sr_BadSteps, kit_facts ic_BadCars t_BadCars s_BadSteps_BadCars s_BadSteps_BadSteps, kit_facts ic_BadCar t_BadCar s_BadSteps_BadCar s_BadSteps_BadSteps, kit_facts ic_BadSteps t_BadSteps s_BadSteps_BadSteps s_BadSteps_BadSteps, kit_facts ic_BadRing t_BadRing s_BadSteps_BadRing s_BadSteps_BadSteps, kit_ve sv_BadSteps⟩
  have E_BadRing : ErrC K mg "BadRing" C_BadRing := ⟨PySem.W.mg_of X G aC_BadRing, xn_BadRing, k_BadRing, b_BadRing, t_BadRing⟩
  have X_BadRing : ExcC K C_BadRing := ⟨hg_BadRing, hk_BadRing, b_BadRing, hd_BadRing, ha_BadRing, hn, htk, hm_BadRing⟩
  have T_BadRing : TellC K C_BadRing C_BadCars C_BadCar C_BadSteps C_BadRing C_RoadError false false false true := ⟨X_BadRing, exm_of2 b_RoadError ic_RoadError t_RoadError sr_BadRing, kit_facts ic_BadCars t_BadCars s_BadRing_BadCars s_BadRing_BadRing, kit_facts ic_BadCar t_BadCar s_BadRing_BadCar s_BadRing_BadRing, kit_facts ic_BadSteps t_BadSteps s_BadRing_BadSteps s_BadRing_BadRing, kit_facts ic_BadRing t_BadRing s_BadRing_BadRing s_BadRing_BadRing, kit_ve sv_BadRing⟩
  refine ⟨PySem.W.fnOf "law" "law" (defArgs s_law) (defBody s_law) (defScope s_law) .none kV25 dc25 pm25 an25 cd25 ct25, fun s v => .of_eq rfl, fun base _ _ => ?_⟩
  have F_is_number := fun_mk (st := s_is_number) l0 c0 k0
  have g_is_number := PySem.W.mg_of X G a0
  have F_asked_cars := fun_mk (st := s_asked_cars) l1 c1 k1
  have g_asked_cars := PySem.W.mg_of X G a1
  have F_asked_steps := fun_mk (st := s_asked_steps) l2 c2 k2
  have g_asked_steps := PySem.W.mg_of X G a2
  have F_asked_car := fun_mk (st := s_asked_car) l3 c3 k3
  have g_asked_car := PySem.W.mg_of X G a3
  have F_stepped := fun_mk (st := s_stepped) l4 c4 k4
  have g_stepped := PySem.W.mg_of X G a4
  have F_leans := fun_mk (st := s_leans) l5 c5 k5
  have g_leans := PySem.W.mg_of X G a5
  have F_holders := fun_mk (st := s_holders) l6 c6 k6
  have g_holders := PySem.W.mg_of X G a6
  have F_after := fun_mk (st := s_after) l7 c7 k7
  have g_after := PySem.W.mg_of X G a7
  have F_delays := fun_mk (st := s_delays) l8 c8 k8
  have g_delays := PySem.W.mg_of X G a8
  have F_free_from := fun_mk (st := s_free_from) l9 c9 k9
  have g_free_from := PySem.W.mg_of X G a9
  have F_asked_ring := fun_mk (st := s_asked_ring) l10 c10 k10
  have g_asked_ring := PySem.W.mg_of X G a10
  have F_moved := fun_mk (st := s_moved) l11 c11 k11
  have g_moved := PySem.W.mg_of X G a11
  have F_turned := fun_mk (st := s_turned) l12 c12 k12
  have g_turned := PySem.W.mg_of X G a12
  have F_around_after := fun_mk (st := s_around_after) l13 c13 k13
  have g_around_after := PySem.W.mg_of X G a13
  have F_flow_of := fun_mk (st := s_flow_of) l14 c14 k14
  have g_flow_of := PySem.W.mg_of X G a14
  have F_flow := fun_mk (st := s_flow) l15 c15 k15
  have g_flow := PySem.W.mg_of X G a15
  have F_settled := fun_mk (st := s_settled) l16 c16 k16
  have g_settled := PySem.W.mg_of X G a16
  have F_around := fun_mk (st := s_around) l17 c17 k17
  have g_around := PySem.W.mg_of X G a17
  have F_exchanged := fun_mk (st := s_exchanged) l18 c18 k18
  have g_exchanged := PySem.W.mg_of X G a18
  have F_held := fun_mk (st := s_held) l19 c19 k19
  have g_held := PySem.W.mg_of X G a19
  have F_touches := fun_mk (st := s_touches) l20 c20 k20
  have g_touches := PySem.W.mg_of X G a20
  have F__law_cars_asked := fun_mk (st := s__law_cars_asked) l21 c21 k21
  have g__law_cars_asked := PySem.W.mg_of X G a21
  have F__law_car_asked := fun_mk (st := s__law_car_asked) l22 c22 k22
  have g__law_car_asked := PySem.W.mg_of X G a22
  have F__law_others_asked := fun_mk (st := s__law_others_asked) l23 c23 k23
  have g__law_others_asked := PySem.W.mg_of X G a23
  have F__law_told := fun_mk (st := s__law_told) l24 c24 k24
  have g__law_told := PySem.W.mg_of X G a24
  have F_law := fun_mk (st := s_law) l25 c25 k25
  have g_law := PySem.W.mg_of X G a25
  have c_is_number := cal_is_number (P := l.prog) (w := w) (base := base) F_is_number g_is_number B
  have c_asked_cars := cal_asked_cars (P := l.prog) (w := w) (base := base) F_asked_cars g_asked_cars B c_is_number
  have c_asked_steps := cal_asked_steps (P := l.prog) (w := w) (base := base) F_asked_steps g_asked_steps B c_is_number
  have c_asked_car := cal_asked_car (P := l.prog) (w := w) (base := base) F_asked_car g_asked_car B c_is_number
  have c_stepped := cal_stepped (P := l.prog) (w := w) (base := base) F_stepped g_stepped B c_asked_cars
  have c_leans := cal_leans (P := l.prog) (w := w) (base := base) F_leans g_leans B
  have c_holders := cal_holders (P := l.prog) (w := w) (base := base) F_holders g_holders B c_leans
  have c_after := cal_after (P := l.prog) (w := w) (base := base) F_after g_after B c_asked_cars c_asked_steps c_holders
  have c_delays := cal_delays (P := l.prog) (w := w) (base := base) F_delays g_delays B c_asked_cars c_leans c_holders
  have c_free_from := cal_free_from (P := l.prog) (w := w) (base := base) F_free_from g_free_from B c_asked_cars c_holders
  have c_asked_ring := cal_asked_ring (P := l.prog) (w := w) (base := base) F_asked_ring g_asked_ring B
  have c_moved := cal_moved (P := l.prog) (w := w) (base := base) F_moved g_moved B
  have c_turned := cal_turned (P := l.prog) (w := w) (base := base) F_turned g_turned B
  have c_around_after := cal_around_after (P := l.prog) (w := w) (base := base) F_around_after g_around_after B c_asked_ring c_asked_steps c_moved c_turned
  have c_flow_of := cal_flow_of (P := l.prog) (w := w) (base := base) F_flow_of g_flow_of B
  have c_flow := cal_flow (P := l.prog) (w := w) (base := base) F_flow g_flow B c_around_after c_flow_of
  have c_settled := cal_settled (P := l.prog) (w := w) (base := base) F_settled g_settled B c_asked_ring c_flow_of c_moved
  have x_asked_cars := x_asked_cars (P := l.prog) (w := w) (base := base) E_BadCars F_asked_cars g_asked_cars B c_is_number
  have x_asked_car := x_asked_car (P := l.prog) (w := w) (base := base) E_BadCar F_asked_car g_asked_car B c_is_number
  have x_asked_steps := x_asked_steps (P := l.prog) (w := w) (base := base) E_BadSteps F_asked_steps g_asked_steps B c_is_number
  have x_asked_ring := x_asked_ring (P := l.prog) (w := w) (base := base) E_BadRing F_asked_ring g_asked_ring B
  have x1_stepped := JR.x1_stepped (P := l.prog) (w := w) (base := base) F_stepped g_stepped x_asked_cars
  have x1_delays := JR.x1_delays (P := l.prog) (w := w) (base := base) F_delays g_delays x_asked_cars
  have x1_free_from := JR.x1_free_from (P := l.prog) (w := w) (base := base) F_free_from g_free_from x_asked_cars
  have x1_after := JR.x1_after (P := l.prog) (w := w) (base := base) F_after g_after x_asked_cars
  have x1_held := JR.x1_held (P := l.prog) (w := w) (base := base) F_held g_held x_asked_cars
  have x1_touches := JR.x1_touches (P := l.prog) (w := w) (base := base) F_touches g_touches x_asked_cars
  have x2_held := JR.x2_held (P := l.prog) (w := w) (base := base) F_held g_held c_asked_cars x_asked_car
  have x2_touches := JR.x2_touches (P := l.prog) (w := w) (base := base) F_touches g_touches c_asked_cars x_asked_car
  have x3_after := JR.x3_after (P := l.prog) (w := w) (base := base) F_after g_after c_asked_cars x_asked_steps
  have x3_held := JR.x3_held (P := l.prog) (w := w) (base := base) F_held g_held c_asked_cars c_asked_car x_asked_steps
  have x3_around_after := JR.x3_around_after (P := l.prog) (w := w) (base := base) F_around_after g_around_after c_asked_ring x_asked_steps
  have x3_flow := JR.x3_flow (P := l.prog) (w := w) (base := base) F_flow g_flow c_flow_of x3_around_after
  have x4_around := JR.x4_around (P := l.prog) (w := w) (base := base) F_around g_around x_asked_ring
  have x4_exchanged := JR.x4_exchanged (P := l.prog) (w := w) (base := base) F_exchanged g_exchanged x_asked_ring
  have x4_settled := JR.x4_settled (P := l.prog) (w := w) (base := base) F_settled g_settled x_asked_ring
  have x4_around_after := JR.x4_around_after (P := l.prog) (w := w) (base := base) F_around_after g_around_after x_asked_ring
  have x4_flow := JR.x4_flow (P := l.prog) (w := w) (base := base) F_flow g_flow c_flow_of x4_around_after
  have x__law_cars_asked := JR.x__law_cars_asked (P := l.prog) (w := w) (base := base) F__law_cars_asked g__law_cars_asked x1_stepped x1_delays x1_free_from x1_after x1_held x1_touches
  have x__law_car_asked := JR.x__law_car_asked (P := l.prog) (w := w) (base := base) F__law_car_asked g__law_car_asked x2_held x2_touches
  have x__law_others_asked := JR.x__law_others_asked (P := l.prog) (w := w) (base := base) F__law_others_asked g__law_others_asked x3_after x3_held x3_around_after x3_flow x4_around x4_exchanged x4_settled x4_around_after x4_flow
  have c__law_told := cal__law_told (P := l.prog) (w := w) (base := base) F__law_told g__law_told B (PySem.W.mg_none_of X G z_VE) (PySem.W.mg_of X G aC_RoadError) E_BadCars.g E_BadCar.g E_BadSteps.g E_BadRing.g T_BadCars T_BadCar T_BadSteps T_BadRing x__law_cars_asked x__law_car_asked x__law_others_asked
  exact ok_law F_law B c__law_told c_stepped c_delays c_free_from c_after c_settled c_flow c_around_after
end JR
open PySem PySem.W PyProof.Rows
set_option maxHeartbeats 0 in
theorem PySem.Challenge.cw_jamroad_k09_refused_holds : PySem.Challenge.rw_jamroad_k09_refused.Holds := by
  w_on; o_law; k_head; (case hw => w_witness2)
  k_fill
  refine L2.walk_of (l := PySem.Challenge.rw_jamroad_k09_refused) (n := 63) (k := 7) (x := "_law_script") (CX := fun _ => L2.CX0) (sp := fun w => JR.spLaw _) rfl (by decide) rfl ⟨rfl, by decide, by decide⟩ (fun w h Y => PySem.W.kIn_of Y) ?F (fun _ _ a ns hl _ hS => ⟨a, ns, rfl, hS, hl, fun _ => rfl⟩) (fun _ _ _ _ _ h => h)
  case F =>
    intro w mg fa h KX G hmg
    refine' JR.all_mk KX G hmg ?aC_BadCars ?b_BadCars ?t_BadCars ?ic_BadCars ?aC_BadCar ?b_BadCar ?t_BadCar ?ic_BadCar ?aC_BadSteps ?b_BadSteps ?t_BadSteps ?ic_BadSteps ?aC_BadRing ?b_BadRing ?t_BadRing ?ic_BadRing ?aC_RoadError ?b_RoadError ?t_RoadError ?ic_RoadError ?xn_BadCars ?k_BadCars ?hg_BadCars ?hk_BadCars ?hd_BadCars ?ha_BadCars ?hm_BadCars ?sv_BadCars ?sr_BadCars ?s_BadCars_BadCars ?s_BadCars_BadCar ?s_BadCars_BadSteps ?s_BadCars_BadRing ?xn_BadCar ?k_BadCar ?hg_BadCar ?hk_BadCar ?hd_BadCar ?ha_BadCar ?hm_BadCar ?sv_BadCar ?sr_BadCar ?s_BadCar_BadCars ?s_BadCar_BadCar ?s_BadCar_BadSteps ?s_BadCar_BadRing ?xn_BadSteps ?k_BadSteps ?hg_BadSteps ?hk_BadSteps ?hd_BadSteps ?ha_BadSteps ?hm_BadSteps ?sv_BadSteps ?sr_BadSteps ?s_BadSteps_BadCars ?s_BadSteps_BadCar ?s_BadSteps_BadSteps ?s_BadSteps_BadRing ?xn_BadRing ?k_BadRing ?hg_BadRing ?hk_BadRing ?hd_BadRing ?ha_BadRing ?hm_BadRing ?sv_BadRing ?sr_BadRing ?s_BadRing_BadCars ?s_BadRing_BadCar ?s_BadRing_BadSteps ?s_BadRing_BadRing ?hn ?htk ?a0 ?l0 ?c0 ?k0 ?a1 ?l1 ?c1 ?k1 ?a2 ?l2 ?c2 ?k2 ?a3 ?l3 ?c3 ?k3 ?a4 ?l4 ?c4 ?k4 ?a5 ?l5 ?c5 ?k5 ?a6 ?l6 ?c6 ?k6 ?a7 ?l7 ?c7 ?k7 ?a8 ?l8 ?c8 ?k8 ?a9 ?l9 ?c9 ?k9 ?a10 ?l10 ?c10 ?k10 ?a11 ?l11 ?c11 ?k11 ?a12 ?l12 ?c12 ?k12 ?a13 ?l13 ?c13 ?k13 ?a14 ?l14 ?c14 ?k14 ?a15 ?l15 ?c15 ?k15 ?a16 ?l16 ?c16 ?k16 ?a17 ?l17 ?c17 ?k17 ?a18 ?l18 ?c18 ?k18 ?a19 ?l19 ?c19 ?k19 ?a20 ?l20 ?c20 ?k20 ?a21 ?l21 ?c21 ?k21 ?a22 ?l22 ?c22 ?k22 ?a23 ?l23 ?c23 ?k23 ?a24 ?l24 ?c24 ?k24 ?a25 ?l25 ?c25 ?k25 ?z_len ?z_isinstance ?z_int ?z_bool ?z_list ?z_str ?z_all ?z_any ?z_sum ?z_min ?z_max ?z_range ?z_enumerate ?z_reversed ?z_sorted ?z_VE
    (case aC_BadCars => k_is); (case b_BadCars => k_is); (case t_BadCars => k_is); (case ic_BadCars => k_is); (case aC_BadCar => k_is); (case b_BadCar => k_is); (case t_BadCar => k_is); (case ic_BadCar => k_is); (case aC_BadSteps => k_is); (case b_BadSteps => k_is); (case t_BadSteps => k_is); (case ic_BadSteps => k_is); (case aC_BadRing => k_is); (case b_BadRing => k_is); (case t_BadRing => k_is); (case ic_BadRing => k_is); (case aC_RoadError => k_is); (case b_RoadError => k_is); (case t_RoadError => k_is); (case ic_RoadError => k_is); (case xn_BadCars => k_exc); (case k_BadCars => k_is); (case hg_BadCars => k_is); (case hk_BadCars => k_is); (case hd_BadCars => k_is); (case ha_BadCars => k_is); (case hm_BadCars => k_is); (case sv_BadCars => k_is); (case sr_BadCars => k_is); (case s_BadCars_BadCars => first | rfl | k_is); (case s_BadCars_BadCar => first | rfl | k_is); (case s_BadCars_BadSteps => first | rfl | k_is); (case s_BadCars_BadRing => first | rfl | k_is); (case xn_BadCar => k_exc); (case k_BadCar => k_is); (case hg_BadCar => k_is); (case hk_BadCar => k_is); (case hd_BadCar => k_is); (case ha_BadCar => k_is); (case hm_BadCar => k_is); (case sv_BadCar => k_is); (case sr_BadCar => k_is); (case s_BadCar_BadCars => first | rfl | k_is); (case s_BadCar_BadCar => first | rfl | k_is); (case s_BadCar_BadSteps => first | rfl | k_is); (case s_BadCar_BadRing => first | rfl | k_is); (case xn_BadSteps => k_exc); (case k_BadSteps => k_is); (case hg_BadSteps => k_is); (case hk_BadSteps => k_is); (case hd_BadSteps => k_is); (case ha_BadSteps => k_is); (case hm_BadSteps => k_is); (case sv_BadSteps => k_is); (case sr_BadSteps => k_is); (case s_BadSteps_BadCars => first | rfl | k_is); (case s_BadSteps_BadCar => first | rfl | k_is); (case s_BadSteps_BadSteps => first | rfl | k_is); (case s_BadSteps_BadRing => first | rfl | k_is); (case xn_BadRing => k_exc); (case k_BadRing => k_is); (case hg_BadRing => k_is); (case hk_BadRing => k_is); (case hd_BadRing => k_is); (case ha_BadRing => k_is); (case hm_BadRing => k_is); (case sv_BadRing => k_is); (case sr_BadRing => k_is); (case s_BadRing_BadCars => first | rfl | k_is); (case s_BadRing_BadCar => first | rfl | k_is); (case s_BadRing_BadSteps => first | rfl | k_is); (case s_BadRing_BadRing => first | rfl | k_is); (case hn => k_is); (case htk => k_is); (case a0 => k_is); (case l0 => k_is); (case c0 => k_is); (case k0 => k_is); (case a1 => k_is); (case l1 => k_is); (case c1 => k_is); (case k1 => k_is); (case a2 => k_is); (case l2 => k_is); (case c2 => k_is); (case k2 => k_is); (case a3 => k_is); (case l3 => k_is); (case c3 => k_is); (case k3 => k_is); (case a4 => k_is); (case l4 => k_is); (case c4 => k_is); (case k4 => k_is); (case a5 => k_is); (case l5 => k_is); (case c5 => k_is); (case k5 => k_is); (case a6 => k_is); (case l6 => k_is); (case c6 => k_is); (case k6 => k_is); (case a7 => k_is); (case l7 => k_is); (case c7 => k_is); (case k7 => k_is); (case a8 => k_is); (case l8 => k_is); (case c8 => k_is); (case k8 => k_is); (case a9 => k_is); (case l9 => k_is); (case c9 => k_is); (case k9 => k_is); (case a10 => k_is); (case l10 => k_is); (case c10 => k_is); (case k10 => k_is); (case a11 => k_is); (case l11 => k_is); (case c11 => k_is); (case k11 => k_is); (case a12 => k_is); (case l12 => k_is); (case c12 => k_is); (case k12 => k_is); (case a13 => k_is); (case l13 => k_is); (case c13 => k_is); (case k13 => k_is); (case a14 => k_is); (case l14 => k_is); (case c14 => k_is); (case k14 => k_is); (case a15 => k_is); (case l15 => k_is); (case c15 => k_is); (case k15 => k_is); (case a16 => k_is); (case l16 => k_is); (case c16 => k_is); (case k16 => k_is); (case a17 => k_is); (case l17 => k_is); (case c17 => k_is); (case k17 => k_is); (case a18 => k_is); (case l18 => k_is); (case c18 => k_is); (case k18 => k_is); (case a19 => k_is); (case l19 => k_is); (case c19 => k_is); (case k19 => k_is); (case a20 => k_is); (case l20 => k_is); (case c20 => k_is); (case k20 => k_is); (case a21 => k_is); (case l21 => k_is); (case c21 => k_is); (case k21 => k_is); (case a22 => k_is); (case l22 => k_is); (case c22 => k_is); (case k22 => k_is); (case a23 => k_is); (case l23 => k_is); (case c23 => k_is); (case k23 => k_is); (case a24 => k_is); (case l24 => k_is); (case c24 => k_is); (case k24 => k_is); (case a25 => k_is); (case l25 => k_is); (case c25 => k_is); (case k25 => k_is); (case z_len => k_is); (case z_isinstance => k_is); (case z_int => k_is); (case z_bool => k_is); (case z_list => k_is); (case z_str => k_is); (case z_all => k_is); (case z_any => k_is); (case z_sum => k_is); (case z_min => k_is); (case z_max => k_is); (case z_range => k_is); (case z_enumerate => k_is); (case z_reversed => k_is); (case z_sorted => k_is); (case z_VE => k_is)
