import PyProof.Rows.All
import Wide.All
import OpenK.AllK
import Wide.FinOn
import HandS.ForMost
import HandS.Walk
import HandS.Conv
import HandS.Deep
import HandS.IsInst
import HandS.WideBits
import HandS.EndBits
import HandS.More
import HandS.Lambda
import HandS.EndTab
import KE.KMinKey
import KE.KDictPairs
import KE.KEqDict
import KE.KLam
import KE.DataFind
import PySem.Challenge.RW_signbook_k62_whole_all_signs_tried
import HandS.Text
import HandS.WordsDict
set_option Elab.async false
set_option linter.all false
set_option maxRecDepth 100000
section
set_option autoImplicit false
namespace K62
/-! sums over the first n places -/
def sumN : Nat → (Nat → Int) → Int
  | 0, _ => 0
  | n + 1, f => sumN n f + f n
theorem sumN_congr {n : Nat} {f g : Nat → Int} (h : ∀ i, i < n → f i = g i) : sumN n f = sumN n g := by
  induction n with
  | zero => rfl
  | succ n ih => 
    show sumN n f + f n = sumN n g + g n
    rw [ih (fun i hi => h i (by omega)), h n (by omega)]
theorem sumN_add (n : Nat) (f g : Nat → Int) : sumN n (fun i => f i + g i) = sumN n f + sumN n g := by
  induction n with
  | zero => rfl
  | succ n ih =>
    show sumN n (fun i => f i + g i) + (f n + g n) = (sumN n f + f n) + (sumN n g + g n)
    rw [ih]; omega
theorem sumN_zero {n : Nat} {f : Nat → Int} (h : ∀ i, i < n → f i = 0) : sumN n f = 0 := by
  induction n with
  | zero => rfl
  | succ n ih =>
    show sumN n f + f n = 0
    rw [ih (fun i hi => h i (by omega)), h n (by omega)]; rfl
theorem sumN_mul (n : Nat) (c : Int) (f : Nat → Int) : sumN n (fun i => c * f i) = c * sumN n f := by
  induction n with
  | zero => exact (Int.mul_zero c).symm
  | succ n ih =>
    show sumN n (fun i => c * f i) + c * f n = c * (sumN n f + f n)
    rw [ih, Int.mul_add]
/-- one place alone -/
theorem sumN_one {n a : Nat} {f : Nat → Int} (ha : a < n) (h : ∀ i, i < n → i ≠ a → f i = 0) : sumN n f = f a := by
  induction n with
  | zero => omega
  | succ n ih =>
    show sumN n f + f n = f a
    by_cases e : a = n
    · subst e
      rw [sumN_zero (fun i hi => h i (by omega) (by omega))]; omega
    · rw [ih (by omega) (fun i hi hne => h i (by omega) hne), h n (by omega) (by omega)]; omega
/-- two places alone -/
theorem sumN_two {n a b : Nat} {f : Nat → Int} (ha : a < n) (hb : b < n) (hab : a ≠ b) (h : ∀ i, i < n → i ≠ a → i ≠ b → f i = 0) : sumN n f = f a + f b := by
  have e : sumN n f = sumN n (fun i => (if i = a then f a else 0) + (if i = a then 0 else f i)) := sumN_congr fun i _ => by
    by_cases q : i = a
    · subst q; simp
    · simp [q]
  rw [e, sumN_add, sumN_one (a := a) ha (fun i _ hne => by simp [hne]), sumN_one (a := b) hb (fun i hi hne => by
    by_cases q : i = a
    · simp [q]
    · simp [q]; exact h i hi q hne)]
  simp [hab.symm]
/-- a sum over the rows that r tells, once each -/
theorem sumN_image {m k : Nat} {r : Nat → Nat} (hr : ∀ a, a < k → r a < m) (inj : ∀ a b, a < k → b < k → r a = r b → a = b) (f : Nat → Int) :
    sumN m (fun i => if (∃ a, a < k ∧ r a = i) then f i else 0) = sumN k (fun a => f (r a)) := by
  induction k with
  | zero => exact sumN_zero fun i _ => by simp
  | succ k ih =>
    have ih' := ih (fun a ha => hr a (by omega)) (fun a b ha hb => inj a b (by omega) (by omega))
    show _ = sumN k (fun a => f (r a)) + f (r k)
    rw [← ih']
    have e : sumN m (fun i => if (∃ a, a < k + 1 ∧ r a = i) then f i else 0) = sumN m (fun i => (if (∃ a, a < k ∧ r a = i) then f i else 0) + (if i = r k then f i else 0)) := sumN_congr fun i _ => by
      by_cases q : i = r k
      · have n1 : ¬ ∃ a, a < k ∧ r a = i := fun ⟨a, ha, e⟩ => by
          have := inj a k (by omega) (by omega) (e.trans q); omega
        rw [if_pos ⟨k, by omega, q.symm⟩, if_neg n1, if_pos q]; omega
      · rw [if_neg q]
        by_cases p : ∃ a, a < k ∧ r a = i
        · obtain ⟨a, ha, e⟩ := p
          rw [if_pos ⟨a, by omega, e⟩, if_pos ⟨a, ha, e⟩]; omega
        · rw [if_neg p, if_neg (fun ⟨a, ha, e⟩ => by
            by_cases z : a = k
            · subst z; exact q e.symm
            · exact p ⟨a, by omega, e⟩)]; omega
    rw [e, sumN_add]
    congr 1
    rw [sumN_one (a := r k) (hr k (by omega)) (fun i _ hne => by rw [if_neg hne]), if_pos rfl]
/-- turned by one -/
theorem sumN_turn (k : Nat) (u : Nat → Int) : sumN (k + 1) (fun a => if a + 1 < k + 1 then u (a + 1) else u 0) = sumN (k + 1) u := by
  have e : ∀ n, sumN n (fun a => u (a + 1)) + u 0 = sumN n u + u n := fun n => by
    induction n with
    | zero => rfl
    | succ n ih =>
      show (sumN n (fun a => u (a + 1)) + u (n + 1)) + u 0 = (sumN n u + u n) + u (n + 1)
      omega
  show sumN k (fun a => if a + 1 < k + 1 then u (a + 1) else u 0) + (if k + 1 < k + 1 then u (k + 1) else u 0) = sumN k u + u k
  rw [if_neg (by omega), ← e k]
  congr 1
  exact sumN_congr fun i hi => if_pos (by omega)

/-- every set of rows has right signs (Ghouila-Houri by rows) -/
def GH (m n : Nat) (S : Nat → Nat → Int) : Prop :=
  ∀ R : Nat → Bool, ∃ e : Nat → Int, (∀ i, e i = 1 ∨ e i = -1) ∧ ∀ j, j < n →
    -1 ≤ sumN m (fun i => if R i = true then e i * S i j else 0) ∧ sumN m (fun i => if R i = true then e i * S i j else 0) ≤ 1

/-- a way of rows and columns by turns, k of both: from the row r 0 to the column c (k - 1), by entries of P that aren't 0 -/
structure RC (P : Nat → Nat → Int) (i j k : Nat) (r c : Nat → Nat) : Prop where
  pos : 0 < k
  beg : r 0 = i
  fin : c (k - 1) = j
  fwd : ∀ a, a < k → P (r a) (c a) ≠ 0
  bwd : ∀ a, a + 1 < k → P (r (a + 1)) (c a) ≠ 0

/-- what a signed table and a part of its signs are, and the spot that is next -/
structure Near (m n : Nat) (S P : Nat → Nat → Int) (i j k : Nat) (r c : Nat → Nat) : Prop where
  one : ∀ a b, S a b = 0 ∨ S a b = 1 ∨ S a b = -1
  inn : ∀ a b, S a b ≠ 0 → a < m ∧ b < n
  part : ∀ a b, P a b ≠ 0 → P a b = S a b
  spot : S i j ≠ 0
  open' : P i j = 0
  way : RC P i j k r c
  least : ∀ k' r' c', RC P i j k' r' c' → k ≤ k'
  others : ∀ i' j' k' r' c', S i' j' ≠ 0 → P i' j' = 0 → RC P i' j' k' r' c' → k ≤ k'

section
variable {m n : Nat} {S P : Nat → Nat → Int} {i j k : Nat} {r c : Nat → Nat}
theorem Near.chord (h : Near m n S P i j k r c) {a b : Nat} (ha : a < k) (hb : b < k) (e : S (r b) (c a) ≠ 0) : b = a ∨ b = a + 1 ∨ (b = 0 ∧ a = k - 1) := by
  obtain ⟨w0, wb, wf, w1, w2⟩ := h.way
  by_cases q1 : b = a
  · exact .inl q1
  by_cases q2 : b = a + 1
  · exact .inr (.inl q2)
  by_cases q3 : b = 0 ∧ a = k - 1
  · exact .inr (.inr q3)
  exfalso
  by_cases hP : P (r b) (c a) = 0
  · -- not yet signed: its own way is shorter
    by_cases hlt : b < a
    · have := h.others (r b) (c a) (a - b + 1) (fun x => r (b + x)) (fun x => c (b + x)) e hP
        ⟨by omega, rfl, by show c (b + (a - b + 1 - 1)) = c a; congr 1; omega, fun x hx => w1 (b + x) (by omega), fun x hx => by
          have := w2 (b + x) (by omega)
          show P (r (b + (x + 1))) (c (b + x)) ≠ 0
          rw [← Nat.add_assoc]; exact this⟩
      omega
    · have := h.others (r b) (c a) (b - a) (fun x => r (b - x)) (fun x => c (b - 1 - x)) e hP
        ⟨by omega, rfl, by show c (b - 1 - (b - a - 1)) = c a; congr 1; omega, fun x hx => by
          have := w2 (b - 1 - x) (by omega)
          show P (r (b - x)) (c (b - 1 - x)) ≠ 0
          rw [show b - x = b - 1 - x + 1 by omega]; exact this, fun x hx => by
          have := w1 (b - 1 - x) (by omega)
          show P (r (b - (x + 1))) (c (b - 1 - x)) ≠ 0
          rw [show b - (x + 1) = b - 1 - x by omega]; exact this⟩
      omega
  · -- signed: a shorter way
    by_cases hlt : b < a
    · have := h.least (k - (a - b)) (fun x => if x ≤ b then r x else r (x + (a - b))) (fun x => if x < b then c x else c (x + (a - b)))
        ⟨by omega, by simp [wb], by
          show (if k - (a - b) - 1 < b then c (k - (a - b) - 1) else c (k - (a - b) - 1 + (a - b))) = j
          rw [if_neg (by omega), ← wf]; congr 1; omega, fun x hx => by
          show P (if x ≤ b then r x else r (x + (a - b))) (if x < b then c x else c (x + (a - b))) ≠ 0
          by_cases z : x < b
          · rw [if_pos (by omega), if_pos z]; exact w1 x (by omega)
          · by_cases z2 : x = b
            · subst z2
              rw [if_pos (by omega), if_neg (by omega), show x + (a - x) = a by omega]; exact hP
            · rw [if_neg (by omega), if_neg z]; exact w1 _ (by omega), fun x hx => by
          show P (if x + 1 ≤ b then r (x + 1) else r (x + 1 + (a - b))) (if x < b then c x else c (x + (a - b))) ≠ 0
          by_cases z : x < b
          · rw [if_pos (by omega), if_pos z]; exact w2 x (by omega)
          · rw [if_neg (by omega), if_neg z, show x + 1 + (a - b) = x + (a - b) + 1 by omega]; exact w2 _ (by omega)⟩
      omega
    · have := h.least (k - (b - a - 1)) (fun x => if x ≤ a then r x else r (x + (b - a - 1))) (fun x => if x ≤ a then c x else c (x + (b - a - 1)))
        ⟨by omega, by simp [wb], by
          show (if k - (b - a - 1) - 1 ≤ a then c (k - (b - a - 1) - 1) else c (k - (b - a - 1) - 1 + (b - a - 1))) = j
          rw [if_neg (by omega), ← wf]; congr 1; omega, fun x hx => by
          show P (if x ≤ a then r x else r (x + (b - a - 1))) (if x ≤ a then c x else c (x + (b - a - 1))) ≠ 0
          by_cases z : x ≤ a
          · rw [if_pos z, if_pos z]; exact w1 x (by omega)
          · rw [if_neg z, if_neg z]; exact w1 _ (by omega), fun x hx => by
          show P (if x + 1 ≤ a then r (x + 1) else r (x + 1 + (b - a - 1))) (if x ≤ a then c x else c (x + (b - a - 1))) ≠ 0
          by_cases z : x + 1 ≤ a
          · rw [if_pos z, if_pos (by omega)]; exact w2 x (by omega)
          · by_cases z2 : x = a
            · subst z2
              rw [if_neg z, if_pos (by omega), show x + 1 + (b - x - 1) = b by omega]; exact hP
            · rw [if_neg z, if_neg (by omega), show x + 1 + (b - a - 1) = x + (b - a - 1) + 1 by omega]; exact w2 _ (by omega)⟩
      omega

theorem Near.sn (h : Near m n S P i j k r c) {a b : Nat} (e : P a b ≠ 0) : S a b ≠ 0 := by
  have := h.part a b e
  rw [← this]; exact e
theorem Near.two (h : Near m n S P i j k r c) : 2 ≤ k := by
  obtain ⟨w0, wb, wf, w1, w2⟩ := h.way
  by_cases e : k = 1
  · exfalso
    subst e
    have := w1 0 (by omega)
    rw [wb, show c 0 = j from wf] at this
    exact this h.open'
  · omega
theorem Near.inj (h : Near m n S P i j k r c) {a b : Nat} (ha : a < k) (hb : b < k) (e : r a = r b) : a = b := by
  have key : ∀ x y, x < y → y < k → r x = r y → False := fun x y hxy hy e => by
    have w1 := h.way.fwd y hy
    have q := h.chord (a := y) (b := x) hy (by omega) (by rw [e]; exact h.sn w1)
    rcases q with q | q | ⟨q1, q2⟩
    · omega
    · omega
    · subst q1
      rw [← e, h.way.beg, q2, h.way.fin] at w1
      exact w1 h.open'
  rcases Nat.lt_trichotomy a b with q | q | q
  · exact (key a b q hb e).elim
  · exact q
  · exact (key b a q ha e.symm).elim
/-- the next of the round -/
def nxt (k a : Nat) : Nat := if a + 1 < k then a + 1 else 0
theorem four {x y u v : Int} (hx : x = 1 ∨ x = -1) (hy : y = 1 ∨ y = -1) (hu : u = 1 ∨ u = -1) (hv : v = 1 ∨ v = -1) (lo : -1 ≤ u * x + v * y) (hi : u * x + v * y ≤ 1) : ∃ z : Int, x + y + u + v = 2 + 4 * z := by
  rcases hx with rfl | rfl <;> rcases hy with rfl | rfl <;> rcases hu with rfl | rfl <;> rcases hv with rfl | rfl <;> first | omega | (refine ⟨0, ?_⟩; omega) | (refine ⟨-1, ?_⟩; omega)
theorem Near.round (h : Near m n S P i j k r c) (g : GH m n S) : ∃ z : Int, sumN k (fun a => S (r a) (c a)) + sumN k (fun a => S (r (nxt k a)) (c a)) = 4 * z := by
  have h2 := h.two
  obtain ⟨w0, wb, wf, w1, w2⟩ := id h.way
  have hcyc : ∀ a, a < k → S (r (nxt k a)) (c a) ≠ 0 := fun a ha => by
    unfold nxt
    by_cases q : a + 1 < k
    · rw [if_pos q]; exact h.sn (w2 a q)
    · rw [if_neg q, wb, show a = k - 1 by omega, wf]; exact h.spot
  have hfw : ∀ a, a < k → S (r a) (c a) ≠ 0 := fun a ha => h.sn (w1 a ha)
  have hin : ∀ a, a < k → r a < m ∧ c a < n := fun a ha => h.inn _ _ (hfw a ha)
  obtain ⟨e, he, hs⟩ := g (fun x => decide (∃ a, a < k ∧ r a = x))
  have nlt : ∀ a, a < k → nxt k a < k ∧ nxt k a ≠ a := fun a ha => by
    unfold nxt
    by_cases q : a + 1 < k
    · rw [if_pos q]; omega
    · rw [if_neg q]; omega
  have col : ∀ a, a < k → sumN m (fun x => if decide (∃ a, a < k ∧ r a = x) = true then e x * S x (c a) else 0) = e (r a) * S (r a) (c a) + e (r (nxt k a)) * S (r (nxt k a)) (c a) := fun a ha => by
    have e1 : sumN m (fun x => if decide (∃ a, a < k ∧ r a = x) = true then e x * S x (c a) else 0) = sumN m (fun x => if (∃ a, a < k ∧ r a = x) then e x * S x (c a) else 0) := sumN_congr fun x _ => by
      simp only [decide_eq_true_eq]
    rw [e1, sumN_image (k := k) (r := r) (fun a ha => (hin a ha).1) (fun a b ha hb => h.inj ha hb) (fun x => e x * S x (c a))]
    refine sumN_two (f := fun b => e (r b) * S (r b) (c a)) ha (nlt a ha).1 (Ne.symm (nlt a ha).2) fun b hb n1 n2 => ?_
    by_cases z : S (r b) (c a) = 0
    · show e (r b) * S (r b) (c a) = 0
      rw [z, Int.mul_zero]
    · exfalso
      have q := h.chord ha hb z
      unfold nxt at n2
      rcases q with q | q | ⟨q1, q2⟩
      · exact n1 q
      · by_cases y : a + 1 < k
        · rw [if_pos y] at n2; omega
        · omega
      · rw [if_neg (by omega)] at n2; omega
  have pm : ∀ a b, S a b ≠ 0 → S a b = 1 ∨ S a b = -1 := fun a b z => by
    rcases h.one a b with q | q | q
    · exact absurd q z
    · exact .inl q
    · exact .inr q
  have term : ∀ a, a < k → ∃ z : Int, S (r a) (c a) + S (r (nxt k a)) (c a) + e (r a) + e (r (nxt k a)) = 2 + 4 * z := fun a ha => by
    have b := hs (c a) (hin a ha).2
    rw [col a ha] at b
    exact four (pm _ _ (hfw a ha)) (pm _ _ (hcyc a ha)) (he _) (he _) b.1 b.2
  have tot : ∀ q, q ≤ k → ∃ z : Int, sumN q (fun a => S (r a) (c a)) + sumN q (fun a => S (r (nxt k a)) (c a)) + sumN q (fun a => e (r a)) + sumN q (fun a => e (r (nxt k a))) = 2 * q + 4 * z := fun q => by
    induction q with
    | zero => intro _; exact ⟨0, rfl⟩
    | succ q ih =>
      intro hq
      obtain ⟨z1, e1⟩ := ih (by omega)
      obtain ⟨z2, e2⟩ := term q (by omega)
      refine ⟨z1 + z2, ?_⟩
      show (sumN q (fun a => S (r a) (c a)) + S (r q) (c q)) + (sumN q (fun a => S (r (nxt k a)) (c a)) + S (r (nxt k q)) (c q)) + (sumN q (fun a => e (r a)) + e (r q)) + (sumN q (fun a => e (r (nxt k a))) + e (r (nxt k q))) = 2 * ((q + 1 : Nat) : Int) + 4 * (z1 + z2)
      omega
  have turn : sumN k (fun a => e (r (nxt k a))) = sumN k (fun a => e (r a)) := by
    obtain ⟨k', rfl⟩ : ∃ k', k = k' + 1 := ⟨k - 1, by omega⟩
    rw [← sumN_turn k' (fun a => e (r a))]
    exact sumN_congr fun a _ => by
      unfold nxt
      by_cases q : a + 1 < k' + 1
      · rw [if_pos q, if_pos q]
      · rw [if_neg q, if_neg q]
  have dbl : ∀ q, ∃ z : Int, 2 * sumN q (fun a => e (r a)) = 2 * q + 4 * z := fun q => by
    induction q with
    | zero => exact ⟨0, rfl⟩
    | succ q ih =>
      obtain ⟨z, e1⟩ := ih
      rcases he (r q) with y | y
      · refine ⟨z, ?_⟩
        show 2 * (sumN q (fun a => e (r a)) + e (r q)) = 2 * ((q + 1 : Nat) : Int) + 4 * z
        omega
      · refine ⟨z - 1, ?_⟩
        show 2 * (sumN q (fun a => e (r a)) + e (r q)) = 2 * ((q + 1 : Nat) : Int) + 4 * (z - 1)
        omega
  obtain ⟨z1, e1⟩ := tot k (Nat.le_refl _)
  obtain ⟨z2, e2⟩ := dbl k
  rw [turn] at e1
  exact ⟨z1 - z2, by omega⟩
/-- what the way and the spot sum up to -/
theorem Near.value (h : Near m n S P i j k r c) (g : GH m n S) : S i j = if (sumN k (fun a => P (r a) (c a)) + sumN (k - 1) (fun a => P (r (a + 1)) (c a)) + 1) % 4 = 0 then 1 else -1 := by
  obtain ⟨z, e⟩ := h.round g
  obtain ⟨w0, wb, wf, w1, w2⟩ := id h.way
  obtain ⟨k', rfl⟩ : ∃ k', k = k' + 1 := ⟨k - 1, by omega⟩
  have e1 : sumN (k' + 1) (fun a => P (r a) (c a)) = sumN (k' + 1) (fun a => S (r a) (c a)) := sumN_congr fun a ha => h.part _ _ (w1 a ha)
  have e2 : sumN (k' + 1) (fun a => S (r (nxt (k' + 1) a)) (c a)) = sumN k' (fun a => P (r (a + 1)) (c a)) + S i j := by
    show sumN k' (fun a => S (r (nxt (k' + 1) a)) (c a)) + S (r (nxt (k' + 1) k')) (c k') = _
    congr 1
    · exact sumN_congr fun a ha => by
        unfold nxt
        rw [if_pos (by omega)]
        exact (h.part _ _ (w2 a (by omega))).symm
    · unfold nxt
      rw [if_neg (by omega), wb]
      congr 1
  rw [e2, ← e1] at e
  show S i j = if (sumN (k' + 1) (fun a => P (r a) (c a)) + sumN k' (fun a => P (r (a + 1)) (c a)) + 1) % 4 = 0 then 1 else -1
  rcases h.one i j with q | q | q
  · exact absurd q h.spot
  · rw [q] at e ⊢
    rw [if_pos (by omega)]
  · rw [q] at e ⊢
    rw [if_neg (by omega)]
end
end K62
end
section
set_option autoImplicit false
namespace K62
/-! ways in a table, and the search that goes breadth first -/
abbrev Spot := Nat × Nat
inductive Nd where
  | row (a : Nat) | col (b : Nat)
  deriving DecidableEq
/-- a way from x to y by entries that aren't 0: its spots -/
inductive Way (P : Nat → Nat → Int) (x : Nd) : Nd → List Spot → Prop where
  | nil : Way P x x []
  | rc {a b : Nat} {p : List Spot} : Way P x (.row a) p → P a b ≠ 0 → Way P x (.col b) (p ++ [(a, b)])
  | cr {a b : Nat} {p : List Spot} : Way P x (.col b) p → P a b ≠ 0 → Way P x (.row a) (p ++ [(a, b)])
theorem Way.mono {P P' : Nat → Nat → Int} (h : ∀ a b, P a b ≠ 0 → P' a b ≠ 0) {x y : Nd} {w : List Spot} (q : Way P x y w) : Way P' x y w := by
  induction q with
  | nil => exact .nil
  | rc _ e ih => exact .rc ih (h _ _ e)
  | cr _ e ih => exact .cr ih (h _ _ e)
theorem Way.trans {P : Nat → Nat → Int} {x y z : Nd} {v w : List Spot} (a : Way P x y v) (b : Way P y z w) : Way P x z (v ++ w) := by
  induction b with
  | nil => rw [List.append_nil]; exact a
  | rc _ e ih => rw [← List.append_assoc]; exact .rc ih e
  | cr _ e ih => rw [← List.append_assoc]; exact .cr ih e
theorem Way.symm {P : Nat → Nat → Int} {x y : Nd} {w : List Spot} (q : Way P x y w) : ∃ v, Way P y x v := by
  induction q with
  | nil => exact ⟨_, .nil⟩
  | rc _ e ih =>
    obtain ⟨v, h⟩ := ih
    exact ⟨_, Way.trans (.cr .nil e) h⟩
  | cr _ e ih =>
    obtain ⟨v, h⟩ := ih
    exact ⟨_, Way.trans (.rc .nil e) h⟩
def spotSum (P : Nat → Nat → Int) (w : List Spot) : Int := (w.map fun s => P s.1 s.2).sum
theorem spotSum_snoc (P : Nat → Nat → Int) (w : List Spot) (s : Spot) : spotSum P (w ++ [s]) = spotSum P w + P s.1 s.2 := by
  unfold spotSum
  rw [List.map_append, List.sum_append]
  simp
/-- a way as rows and columns by turns -/
theorem Way.toRC {P : Nat → Nat → Int} {i : Nat} {y : Nd} {w : List Spot} (q : Way P (.row i) y w) :
    match y with
    | .col j => ∃ k r c, RC P i j k r c ∧ w.length + 1 = 2 * k ∧ spotSum P w = sumN k (fun a => P (r a) (c a)) + sumN (k - 1) (fun a => P (r (a + 1)) (c a))
    | .row x => ∃ (k : Nat) (r c : Nat → Nat), r 0 = i ∧ r k = x ∧ (∀ a, a < k → P (r a) (c a) ≠ 0) ∧ (∀ a, a < k → P (r (a + 1)) (c a) ≠ 0) ∧ w.length = 2 * k ∧ spotSum P w = sumN k (fun a => P (r a) (c a)) + sumN k (fun a => P (r (a + 1)) (c a)) := by
  induction q with
  | nil => exact ⟨0, fun _ => i, fun _ => 0, rfl, rfl, fun a h => by omega, fun a h => by omega, rfl, rfl⟩
  | rc h e ih =>
    rename_i x b p
    obtain ⟨k, r, c, h0, h1, h2, h3, h4, h5⟩ := ih
    refine ⟨k + 1, r, fun t => if t = k then b else c t, ⟨by omega, h0, by simp, fun a ha => ?_, fun a ha => ?_⟩, by rw [List.length_append, h4]; show 2 * k + 1 + 1 = 2 * (k + 1); omega, ?_⟩
    · show P (r a) (if a = k then b else c a) ≠ 0
      by_cases z : a = k
      · subst z; rw [if_pos rfl, h1]; exact e
      · rw [if_neg z]; exact h2 a (by omega)
    · show P (r (a + 1)) (if a = k then b else c a) ≠ 0
      rw [if_neg (by omega)]; exact h3 a (by omega)
    · rw [spotSum_snoc, h5]
      show sumN k _ + sumN k _ + P x b = (sumN k (fun a => P (r a) (if a = k then b else c a)) + P (r k) (if k = k then b else c k)) + sumN k (fun a => P (r (a + 1)) (if a = k then b else c a))
      rw [if_pos rfl, h1, sumN_congr (fun a ha => by rw [if_neg (show a ≠ k by omega)] : ∀ a, a < k → P (r a) (if a = k then b else c a) = P (r a) (c a)),
        sumN_congr (fun a ha => by rw [if_neg (show a ≠ k by omega)] : ∀ a, a < k → P (r (a + 1)) (if a = k then b else c a) = P (r (a + 1)) (c a))]
      omega
  | cr h e ih =>
    rename_i x b p
    obtain ⟨k, r, c, ⟨hp, h0, h1, h2, h3⟩, h4, h5⟩ := ih
    refine ⟨k, fun t => if t = k then x else r t, c, by simp [show ¬ 0 = k by omega, h0], by simp, fun a ha => ?_, fun a ha => ?_, by rw [List.length_append]; show p.length + 1 = 2 * k; omega, ?_⟩
    · show P (if a = k then x else r a) (c a) ≠ 0
      rw [if_neg (by omega)]; exact h2 a ha
    · show P (if a + 1 = k then x else r (a + 1)) (c a) ≠ 0
      by_cases z : a + 1 = k
      · rw [if_pos z, show a = k - 1 by omega, h1]; exact e
      · rw [if_neg z]; exact h3 a (by omega)
    · obtain ⟨k', rfl⟩ : ∃ k', k = k' + 1 := ⟨k - 1, by omega⟩
      rw [spotSum_snoc, h5]
      show _ = sumN (k' + 1) (fun a => P (if a = k' + 1 then x else r a) (c a)) + (sumN k' (fun a => P (if a + 1 = k' + 1 then x else r (a + 1)) (c a)) + P (if k' + 1 = k' + 1 then x else r (k' + 1)) (c k'))
      rw [if_pos rfl, show c k' = b from h1, sumN_congr (fun a ha => by rw [if_neg (show a ≠ k' + 1 by omega)] : ∀ a, a < k' + 1 → P (if a = k' + 1 then x else r a) (c a) = P (r a) (c a)),
        sumN_congr (fun a ha => by rw [if_neg (show ¬ a + 1 = k' + 1 by omega)] : ∀ a, a < k' → P (if a + 1 = k' + 1 then x else r (a + 1)) (c a) = P (r (a + 1)) (c a))]
      show sumN (k' + 1) _ + sumN k' _ + P x b = _
      omega
theorem RC.toWay {P : Nat → Nat → Int} {i : Nat} : ∀ (k : Nat) {j : Nat} {r c : Nat → Nat}, RC P i j k r c → ∃ w, Way P (.row i) (.col j) w ∧ w.length + 1 = 2 * k
  | 0, _, _, _, h => absurd h.pos (by omega)
  | 1, j, r, c, h => by
    have e := h.fwd 0 (by omega)
    rw [h.beg, show c 0 = j from h.fin] at e
    exact ⟨_, .rc .nil e, rfl⟩
  | k + 2, j, r, c, h => by
    obtain ⟨w, q, e⟩ := RC.toWay (k + 1) (j := c k) (r := r) (c := c) ⟨by omega, h.beg, rfl, fun a ha => h.fwd a (by omega), fun a ha => h.bwd a (by omega)⟩
    have e1 := h.bwd k (by omega)
    have e2 := h.fwd (k + 1) (by omega)
    rw [show c (k + 1) = j from h.fin] at e2
    exact ⟨_, .rc (.cr q e1) e2, by simp only [List.length_append, List.length_cons, List.length_nil]; omega⟩

/-- a shortest way -/
structure Short (P : Nat → Nat → Int) (i j : Nat) (w : List Spot) : Prop where
  way : Way P (.row i) (.col j) w
  least : ∀ v, Way P (.row i) (.col j) v → w.length ≤ v.length
/-- the sign that a shortest way of all forces -/
theorem forced_one {m n : Nat} {S P : Nat → Nat → Int} {i j : Nat} {w : List Spot} (one : ∀ a b, S a b = 0 ∨ S a b = 1 ∨ S a b = -1) (inn : ∀ a b, S a b ≠ 0 → a < m ∧ b < n) (part : ∀ a b, P a b ≠ 0 → P a b = S a b) (spot : S i j ≠ 0) (op : P i j = 0)
    (h : Short P i j w) (oth : ∀ i' j' v, S i' j' ≠ 0 → P i' j' = 0 → Way P (.row i') (.col j') v → w.length ≤ v.length) (g : GH m n S) : S i j = if (spotSum P w + 1) % 4 = 0 then 1 else -1 := by
  obtain ⟨k, r, c, hrc, hl, hs⟩ := h.way.toRC
  rw [hs]
  refine Near.value (S := S) (P := P) ⟨one, inn, part, spot, op, hrc, fun k' r' c' q => ?_, fun i' j' k' r' c' z1 z2 q => ?_⟩ g
  · obtain ⟨v, hv, e⟩ := RC.toWay k' q
    have := h.least v hv
    omega
  · obtain ⟨v, hv, e⟩ := RC.toWay k' q
    have := oth i' j' v z1 z2 hv
    omega

/-! ### the search -/
abbrev Found := List (Nd × List Spot)
def nbrs (P : Nat → Nat → Int) (m n : Nat) : Nd → List (Nd × Spot)
  | .row a => ((List.range n).filter fun b => decide (P a b ≠ 0)).map fun b => (.col b, (a, b))
  | .col b => ((List.range m).filter fun a => decide (P a b ≠ 0)).map fun a => (.row a, (a, b))
theorem nbrs_way {P : Nat → Nat → Int} {m n : Nat} {x y z : Nd} {s : Spot} {p : List Spot} (h : (z, s) ∈ nbrs P m n y) (q : Way P x y p) : Way P x z (p ++ [s]) := by
  cases y with
  | row a =>
    obtain ⟨b, hb, e⟩ := List.mem_map.mp h
    have := (List.mem_filter.mp hb).2
    cases e
    exact .rc q (of_decide_eq_true this)
  | col b =>
    obtain ⟨a, ha, e⟩ := List.mem_map.mp h
    have := (List.mem_filter.mp ha).2
    cases e
    exact .cr q (of_decide_eq_true this)
def keys (f : Found) : List Nd := f.map (·.1)
def visit (p : List Spot) (st : Found × List Nd) (x : Nd × Spot) : Found × List Nd :=
  if x.1 ∈ keys st.1 then st else (st.1 ++ [(x.1, p ++ [x.2])], st.2 ++ [x.1])
/-- between two turns, k of the found ones being done -/
structure BI (P : Nat → Nat → Int) (m n i j : Nat) (f : Found) (k : Nat) : Prop where
  nd : (keys f).Nodup
  way : ∀ x p, (x, p) ∈ f → Way P (.row i) x p
  zero : f[0]? = some (.row i, [])
  sorted : ∀ (a b : Nat) (pa pb : Nd × List Spot), a ≤ b → f[a]? = some pa → f[b]? = some pb → pa.2.length ≤ pb.2.length
  upper : ∀ (pk q : Nd × List Spot), f[k]? = some pk → q ∈ f → q.2.length ≤ pk.2.length + 1
  done : ∀ (a : Nat) (pa : Nd × List Spot) (y : Nd) (s : Spot), a < k → f[a]? = some pa → (y, s) ∈ nbrs P m n pa.1 → ∃ q, (y, q) ∈ f ∧ q.length ≤ pa.2.length + 1
  miss : ∀ (a : Nat) (pa : Nd × List Spot), a < k → f[a]? = some pa → pa.1 ≠ .col j
  le : k ≤ f.length
theorem ix_of_mem {α : Type} {l : List α} {x : α} (h : x ∈ l) : ∃ a : Nat, l[a]? = some x := List.mem_iff_getElem?.mp h
section
variable {P : Nat → Nat → Int} {m n i j : Nat} {f : Found} {k : Nat}
theorem nbrs_mem (inn : ∀ a b, P a b ≠ 0 → a < m ∧ b < n) {a b : Nat} (e : P a b ≠ 0) : (Nd.col b, (a, b)) ∈ nbrs P m n (.row a) ∧ (Nd.row a, (a, b)) ∈ nbrs P m n (.col b) := by
  have h := inn a b e
  exact ⟨List.mem_map.mpr ⟨b, List.mem_filter.mpr ⟨List.mem_range.mpr h.2, decide_eq_true e⟩, rfl⟩, List.mem_map.mpr ⟨a, List.mem_filter.mpr ⟨List.mem_range.mpr h.1, decide_eq_true e⟩, rfl⟩⟩
theorem BI.start : BI P m n i j [(.row i, [])] 0 where
  nd := by simp [keys]
  way := fun x p h => by simp at h; obtain ⟨rfl, rfl⟩ := h; exact .nil
  zero := rfl
  sorted := fun a b pa pb _ ha hb => by
    have h1 := List.mem_iff_getElem?.mpr ⟨a, ha⟩
    simp at h1; subst h1; exact Nat.zero_le _
  upper := fun pk q _ hq => by simp at hq; subst hq; exact Nat.zero_le _
  done := fun a pa y s ha => by omega
  miss := fun a pa ha => by omega
  le := Nat.zero_le _
/-- what is nearer than the next one is done -/
theorem BI.near (inn : ∀ a b, P a b ≠ 0 → a < m ∧ b < n) (h : BI P m n i j f k) {pk : Nd × List Spot} (hk : f[k]? = some pk) {x : Nd} {q : List Spot} (w : Way P (.row i) x q) :
    q.length < pk.2.length → ∃ (a : Nat) (pa : Nd × List Spot), a < k ∧ f[a]? = some pa ∧ pa.1 = x ∧ pa.2.length ≤ q.length := by
  have back : ∀ {x y : Nd} {s : Spot} {q : List Spot}, (x, s) ∈ nbrs P m n y → (∃ (a : Nat) (pa : Nd × List Spot), a < k ∧ f[a]? = some pa ∧ pa.1 = y ∧ pa.2.length ≤ q.length) → (q ++ [s]).length < pk.2.length → ∃ (a : Nat) (pa : Nd × List Spot), a < k ∧ f[a]? = some pa ∧ pa.1 = x ∧ pa.2.length ≤ (q ++ [s]).length := by
    intro x y s q hn ⟨a, pa, ha, e1, e2, e3⟩ hl
    rw [List.length_append] at hl
    subst e2
    obtain ⟨v, hv, hle⟩ := h.done a pa x s ha e1 hn
    obtain ⟨b, hb⟩ := ix_of_mem hv
    refine ⟨b, _, ?_, hb, rfl, by rw [List.length_append]; show v.length ≤ q.length + 1; omega⟩
    by_cases z : b < k
    · exact z
    · have := h.sorted k b _ _ (by omega) hk hb
      have hl' : q.length + 1 < pk.2.length := hl
      have : pk.2.length ≤ v.length := this
      omega
  induction w with
  | nil =>
    intro hl
    by_cases z : k = 0
    · subst z
      rw [h.zero] at hk; cases hk; simp at hl
    · exact ⟨0, _, by omega, h.zero, rfl, Nat.le_refl _⟩
  | rc w e ih =>
    intro hl
    exact back (nbrs_mem inn e).1 (ih (by rw [List.length_append] at hl; omega)) hl
  | cr w e ih =>
    intro hl
    exact back (nbrs_mem inn e).2 (ih (by rw [List.length_append] at hl; omega)) hl
theorem BI.short (inn : ∀ a b, P a b ≠ 0 → a < m ∧ b < n) (h : BI P m n i j f k) {p : List Spot} (hk : f[k]? = some (.col j, p)) : Short P i j p := by
  refine ⟨h.way _ _ (List.mem_iff_getElem?.mpr ⟨k, hk⟩), fun v hv => ?_⟩
  by_cases z : p.length ≤ v.length
  · exact z
  · obtain ⟨a, pa, ha, e1, e2, _⟩ := h.near inn hk hv (by show v.length < p.length; omega)
    exact absurd e2 (h.miss a pa ha e1)
/-- where all that was found is done, all that hangs together with the start was found -/
theorem BI.all (inn : ∀ a b, P a b ≠ 0 → a < m ∧ b < n) (h : BI P m n i j f k) (hk : f.length ≤ k) {x : Nd} {q : List Spot} (w : Way P (.row i) x q) : ∃ (a : Nat) (pa : Nd × List Spot), a < k ∧ f[a]? = some pa ∧ pa.1 = x := by
  have back : ∀ {x y : Nd} {s : Spot}, (x, s) ∈ nbrs P m n y → (∃ (a : Nat) (pa : Nd × List Spot), a < k ∧ f[a]? = some pa ∧ pa.1 = y) → ∃ (a : Nat) (pa : Nd × List Spot), a < k ∧ f[a]? = some pa ∧ pa.1 = x := by
    intro x y s hn ⟨a, pa, ha, e1, e2⟩
    subst e2
    obtain ⟨v, hv, _⟩ := h.done a pa x s ha e1 hn
    obtain ⟨b, hb⟩ := ix_of_mem hv
    exact ⟨b, _, by have := (List.getElem?_eq_some_iff.mp hb).1; omega, hb, rfl⟩
  induction w with
  | nil =>
    have := (List.getElem?_eq_some_iff.mp h.zero).1
    exact ⟨0, _, by omega, h.zero, rfl⟩
  | rc w e ih => exact back (nbrs_mem inn e).1 ih
  | cr w e ih => exact back (nbrs_mem inn e).2 ih
theorem BI.more (inn : ∀ a b, P a b ≠ 0 → a < m ∧ b < n) (h : BI P m n i j f k) {q : List Spot} (w : Way P (.row i) (.col j) q) : k < f.length := by
  by_cases z : k < f.length
  · exact z
  · obtain ⟨a, pa, ha, e1, e2⟩ := h.all inn (by omega) w
    exact absurd e2 (h.miss a pa ha e1)
/-- within a turn: of the k-th one's neighbours those in ys are looked at -/
structure MI (P : Nat → Nat → Int) (m n i : Nat) (f0 f : Found) (k : Nat) (pk : Nd × List Spot) (ys : List (Nd × Spot)) : Prop where
  nd : (keys f).Nodup
  way : ∀ x p, (x, p) ∈ f → Way P (.row i) x p
  pre : ∃ g, f = f0 ++ g ∧ ∀ q ∈ g, q.2.length = pk.2.length + 1
  seen : ∀ y s, (y, s) ∈ ys → ∃ q, (y, q) ∈ f ∧ q.length ≤ pk.2.length + 1
theorem MI.next (h : BI P m n i j f k) {pk : Nd × List Spot} (hk : f[k]? = some pk) {g : Found} {fr : List Nd} {ys : List (Nd × Spot)} {y : Nd × Spot} (hy : y ∈ nbrs P m n pk.1) (q : MI P m n i f g k pk ys) :
    MI P m n i f (visit pk.2 (g, fr) y).1 k pk (ys ++ [y]) := by
  obtain ⟨y, s⟩ := y
  have wk : Way P (.row i) pk.1 pk.2 := h.way _ _ (List.mem_iff_getElem?.mpr ⟨k, hk⟩)
  have hu := h.upper pk
  obtain ⟨g', e, hg⟩ := q.pre
  unfold visit
  by_cases z : y ∈ keys g
  · rw [if_pos z]
    refine ⟨q.nd, q.way, q.pre, fun x t hx => ?_⟩
    rcases List.mem_append.mp hx with hx | hx
    · exact q.seen x t hx
    · simp at hx
      obtain ⟨rfl, rfl⟩ := hx
      obtain ⟨⟨x', p⟩, hp, e1⟩ := List.mem_map.mp z
      cases e1
      refine ⟨p, hp, ?_⟩
      show p.length ≤ pk.2.length + 1
      rw [e] at hp
      rcases List.mem_append.mp hp with hp | hp
      · exact hu _ hk hp
      · exact Nat.le_of_eq (hg _ hp)
  · rw [if_neg z]
    refine ⟨?_, fun x p hx => ?_, ⟨g' ++ [(y, pk.2 ++ [s])], by show g ++ _ = _; rw [e, List.append_assoc], fun v hv => ?_⟩, fun x t hx => ?_⟩
    · show (keys (g ++ [(y, pk.2 ++ [s])])).Nodup
      unfold keys
      rw [List.map_append]
      refine List.nodup_append.mpr ⟨q.nd, by simp, fun a ha b hb => ?_⟩
      simp at hb
      subst hb
      exact fun e => z (e ▸ ha)
    · rcases List.mem_append.mp hx with hx | hx
      · exact q.way x p hx
      · simp at hx
        obtain ⟨rfl, rfl⟩ := hx
        exact nbrs_way hy wk
    · rcases List.mem_append.mp hv with hv | hv
      · exact hg v hv
      · simp at hv
        subst hv
        simp
    · rcases List.mem_append.mp hx with hx | hx
      · obtain ⟨p, hp, hl⟩ := q.seen x t hx
        exact ⟨p, List.mem_append_left _ hp, hl⟩
      · simp at hx
        obtain ⟨rfl, rfl⟩ := hx
        exact ⟨_, List.mem_append_right _ (List.mem_singleton.mpr rfl), by simp⟩
theorem MI.beg (h : BI P m n i j f k) {pk : Nd × List Spot} : MI P m n i f f k pk [] := ⟨h.nd, h.way, ⟨[], by simp, fun q hq => by cases hq⟩, fun y s hy => by cases hy⟩
theorem MI.fin (h : BI P m n i j f k) {pk : Nd × List Spot} (hk : f[k]? = some pk) (hne : pk.1 ≠ .col j) {g : Found} (q : MI P m n i f g k pk (nbrs P m n pk.1)) : BI P m n i j g (k + 1) := by
  obtain ⟨g', e, hg⟩ := q.pre
  have hkl := (List.getElem?_eq_some_iff.mp hk).1
  have old : ∀ (a : Nat) (pa : Nd × List Spot), a < f.length → (g[a]? = some pa ↔ f[a]? = some pa) := fun a pa ha => by rw [e, List.getElem?_append_left ha]
  have new : ∀ (a : Nat) (pa : Nd × List Spot), f.length ≤ a → g[a]? = some pa → pa.2.length = pk.2.length + 1 := fun a pa ha ea => by
    rw [e, List.getElem?_append_right ha] at ea
    exact hg _ (List.mem_iff_getElem?.mpr ⟨_, ea⟩)
  have any : ∀ (a : Nat) (pa : Nd × List Spot), g[a]? = some pa → pa.2.length ≤ pk.2.length + 1 := fun a pa ea => by
    by_cases z : a < f.length
    · exact h.upper pk pa hk (List.mem_iff_getElem?.mpr ⟨a, (old a pa z).mp ea⟩)
    · exact Nat.le_of_eq (new a pa (by omega) ea)
  refine ⟨q.nd, q.way, by rw [old 0 _ (by omega)]; exact h.zero, fun a b pa pb hab ea eb => ?_, fun pk' v ek hv => ?_, fun a pa y s ha ea hn => ?_, fun a pa ha ea => ?_, by rw [e, List.length_append]; omega⟩
  · by_cases z : b < f.length
    · exact h.sorted a b pa pb hab ((old a pa (by omega)).mp ea) ((old b pb z).mp eb)
    · rw [new b pb (by omega) eb]; exact any a pa ea
  · obtain ⟨a, ea⟩ := ix_of_mem hv
    have h1 := any a v ea
    have h2 : pk.2.length ≤ pk'.2.length := by
      by_cases z : k + 1 < f.length
      · exact h.sorted k (k + 1) pk pk' (by omega) hk ((old _ _ z).mp ek)
      · rw [new _ _ (by omega) ek]; omega
    omega
  · by_cases z : a = k
    · subst z
      have : pa = pk := by
        have := (old a pa hkl).mp ea
        rw [hk] at this; exact (Option.some.inj this).symm
      subst this
      exact q.seen y s hn
    · obtain ⟨v, hv, hl⟩ := h.done a pa y s (by omega) ((old a pa (by omega)).mp ea) hn
      exact ⟨v, by rw [e]; exact List.mem_append_left _ hv, hl⟩
  · by_cases z : a = k
    · subst z
      have := (old a pa hkl).mp ea
      rw [hk] at this; cases this; exact hne
    · exact h.miss a pa (by omega) ((old a pa (by omega)).mp ea)
/-- the nodes of a table -/
def nodes (m n : Nat) : List Nd := (List.range m).map .row ++ (List.range n).map .col
theorem nodup_le {α : Type} [DecidableEq α] : ∀ {l r : List α}, l.Nodup → (∀ x ∈ l, x ∈ r) → l.length ≤ r.length
  | [], _, _, _ => Nat.zero_le _
  | x :: l, r, h, s => by
    have hx : x ∈ r := s x (List.mem_cons_self ..)
    have ih := nodup_le (l := l) (r := r.erase x) (List.nodup_cons.mp h).2 fun y hy => by
      have ne : y ≠ x := fun e => (List.nodup_cons.mp h).1 (e ▸ hy)
      exact (List.mem_erase_of_ne ne).mpr (s y (List.mem_cons_of_mem _ hy))
    rw [List.length_erase_of_mem hx] at ih
    have : 0 < r.length := List.length_pos_of_mem hx
    show l.length + 1 ≤ r.length
    omega
theorem way_in (inn : ∀ a b, P a b ≠ 0 → a < m ∧ b < n) (hi : i < m) {x : Nd} {q : List Spot} (w : Way P (.row i) x q) : x ∈ nodes m n := by
  cases w with
  | nil => exact List.mem_append_left _ (List.mem_map.mpr ⟨i, List.mem_range.mpr hi, rfl⟩)
  | rc _ e => exact List.mem_append_right _ (List.mem_map.mpr ⟨_, List.mem_range.mpr (inn _ _ e).2, rfl⟩)
  | cr _ e => exact List.mem_append_left _ (List.mem_map.mpr ⟨_, List.mem_range.mpr (inn _ _ e).1, rfl⟩)
theorem BI.few (inn : ∀ a b, P a b ≠ 0 → a < m ∧ b < n) (hi : i < m) (h : BI P m n i j f k) : f.length ≤ m + n := by
  have := nodup_le h.nd (r := nodes m n) fun x hx => by
    obtain ⟨⟨y, p⟩, hp, rfl⟩ := List.mem_map.mp hx
    exact way_in inn hi (h.way y p hp)
  simp [keys, nodes] at this
  exact this
end
end K62
end
section
set_option autoImplicit false
set_option maxRecDepth 100000
namespace K62
/-! picks of rows, right signs -/
abbrev Tab := List (List Int)
def ent (T : Tab) (i j : Nat) : Int := (T.getD i []).getD j 0
def nextOf (p : List Nat) : Nat := match p.getLast? with | none => 0 | some q => q + 1
def picksN (many : Nat) : Nat → List (List Nat)
  | 0 => [[]]
  | s + 1 => (picksN many s).flatMap fun p => (List.range (many - nextOf p)).map fun i => p ++ [nextOf p + i]
theorem picksN_few : ∀ many, many < 10 → ∀ s, s < 10 → (picksN many s).length ≤ 126 := by decide +kernel
/-- rising places below many -/
structure Rise (many : Nat) (p : List Nat) : Prop where
  lt : p.Pairwise (· < ·)
  le : ∀ x ∈ p, x < many
theorem nextOf_snoc (p : List Nat) (x : Nat) : nextOf (p ++ [x]) = x + 1 := by
  unfold nextOf; rw [List.getLast?_concat]
theorem Rise.snoc {many : Nat} {p : List Nat} {x : Nat} (h : Rise many (p ++ [x])) : Rise many p ∧ nextOf p ≤ x ∧ x < many := by
  obtain ⟨h1, h2⟩ := h
  rw [List.pairwise_append] at h1
  refine ⟨⟨h1.1, fun y hy => h2 y (List.mem_append_left _ hy)⟩, ?_, h2 x (List.mem_append_right _ (List.mem_singleton.mpr rfl))⟩
  unfold nextOf
  cases e : p.getLast? with
  | none => exact Nat.zero_le _
  | some q =>
    have hq : q ∈ p := List.mem_of_getLast? e
    exact h1.2.2 q hq x (List.mem_singleton.mpr rfl)
theorem Rise.nil (many : Nat) : Rise many [] := ⟨.nil, fun x h => by cases h⟩
theorem Rise.add {many : Nat} {p : List Nat} {x : Nat} (h : Rise many p) (h1 : nextOf p ≤ x) (h2 : x < many) : Rise many (p ++ [x]) := by
  refine ⟨List.pairwise_append.mpr ⟨h.lt, List.pairwise_singleton _ _, fun a ha b hb => ?_⟩, fun y hy => ?_⟩
  · rw [List.mem_singleton] at hb
    subst hb
    -- a is at most the last one
    have key : ∀ (l : List Nat), l.Pairwise (· < ·) → ∀ a ∈ l, a < nextOf l := by
      intro l
      induction l with
      | nil => intro _ a h; cases h
      | cons y l ih =>
        intro hp a ha
        rw [List.pairwise_cons] at hp
        cases l with
        | nil =>
          rw [List.mem_singleton] at ha
          subst ha
          exact Nat.lt_succ_self _
        | cons z l =>
          have e : nextOf (y :: z :: l) = nextOf (z :: l) := by unfold nextOf; rw [List.getLast?_cons_cons]
          rw [e]
          rcases List.mem_cons.mp ha with rfl | ha
          · exact Nat.lt_trans (hp.1 z (List.mem_cons_self ..)) (ih hp.2 z (List.mem_cons_self ..))
          · exact ih hp.2 a ha
    exact Nat.lt_of_lt_of_le (key p h.lt a ha) h1
  · rcases List.mem_append.mp hy with hy | hy
    · exact h.le y hy
    · rw [List.mem_singleton] at hy; subst hy; exact h2
theorem mem_picksN {many : Nat} : ∀ (s : Nat) (p : List Nat), p ∈ picksN many s ↔ p.length = s ∧ Rise many p
  | 0, p => by
    unfold picksN
    rw [List.mem_singleton]
    constructor
    · rintro rfl; exact ⟨rfl, .nil many⟩
    · rintro ⟨h, _⟩; exact List.length_eq_zero_iff.mp h
  | s + 1, p => by
    unfold picksN
    rw [List.mem_flatMap]
    constructor
    · rintro ⟨q, hq, hp⟩
      obtain ⟨i, hi, rfl⟩ := List.mem_map.mp hp
      obtain ⟨h1, h2⟩ := (mem_picksN s q).mp hq
      rw [List.mem_range] at hi
      exact ⟨by rw [List.length_append, h1]; rfl, h2.add (by omega) (by omega)⟩
    · rintro ⟨h1, h2⟩
      rcases List.eq_nil_or_concat p with rfl | ⟨q, x, rfl⟩
      · cases h1
      · rw [List.concat_eq_append] at h1 h2 ⊢
        obtain ⟨h3, h4, h5⟩ := h2.snoc
        rw [List.length_append] at h1
        refine ⟨q, (mem_picksN s q).mpr ⟨by simpa using h1, h3⟩, List.mem_map.mpr ⟨x - nextOf q, List.mem_range.mpr (by omega), ?_⟩⟩
        rw [show nextOf q + (x - nextOf q) = x by omega]
def allPicksN (many : Nat) : List (List Nat) := (List.range many).flatMap fun i => picksN many (i + 1)
theorem mem_allPicksN {many : Nat} {p : List Nat} : p ∈ allPicksN many ↔ p ≠ [] ∧ Rise many p := by
  unfold allPicksN
  rw [List.mem_flatMap]
  constructor
  · rintro ⟨i, _, hp⟩
    obtain ⟨h1, h2⟩ := (mem_picksN (i + 1) p).mp hp
    exact ⟨fun e => (by rw [e] at h1; cases h1), h2⟩
  · rintro ⟨h1, h2⟩
    have hl : 0 < p.length := List.length_pos_iff.mpr h1
    have hle : p.length ≤ many := by
      have := nodup_le (l := p) (r := List.range many) (h2.lt.imp fun h => Nat.ne_of_lt h) fun x hx => List.mem_range.mpr (h2.le x hx)
      rwa [List.length_range] at this
    exact ⟨p.length - 1, List.mem_range.mpr (by omega), (mem_picksN _ p).mpr ⟨by omega, h2⟩⟩
/-! ### right signs -/
def PM (ss : List Int) : Prop := ∀ s ∈ ss, s = 1 ∨ s = -1
def colSum (S : Tab) (p : List Nat) (ss : List Int) (c : Nat) : Int := (List.zipWith (fun r s => s * ent S r c) p ss).sum
def Right (S : Tab) (n : Nat) (p : List Nat) (ss : List Int) : Prop := ∀ c, c < n → -1 ≤ colSum S p ss c ∧ colSum S p ss c ≤ 1
instance (S : Tab) (n : Nat) (p : List Nat) (ss : List Int) : Decidable (Right S n p ss) := inferInstanceAs (Decidable (∀ c, c < n → -1 ≤ colSum S p ss c ∧ colSum S p ss c ≤ 1))
/-- some right signs -/
def Has (S : Tab) (n : Nat) (p : List Nat) : Prop := ∃ ss : List Int, ss.length = p.length ∧ PM ss ∧ Right S n p ss
def Uni (S : Tab) (m n : Nat) : Prop := ∀ p ∈ allPicksN m, Has S n p
theorem sum_rows {m : Nat} (g : Nat → Int) : ∀ {p : List Nat}, p.Nodup → (∀ x ∈ p, x < m) → (p.map g).sum = sumN m (fun i => if i ∈ p then g i else 0)
  | [], _, _ => by rw [sumN_zero (fun i _ => by simp)]; rfl
  | x :: p, hn, hl => by
    have hx := (List.nodup_cons.mp hn).1
    have ih := sum_rows g (m := m) (List.nodup_cons.mp hn).2 fun y hy => hl y (List.mem_cons_of_mem _ hy)
    have e : sumN m (fun i => if i ∈ x :: p then g i else 0) = sumN m (fun i => (if i = x then g i else 0) + (if i ∈ p then g i else 0)) := sumN_congr fun i _ => by
      by_cases q : i = x
      · subst q
        rw [if_pos (List.mem_cons_self ..), if_pos rfl, if_neg hx]; omega
      · by_cases r : i ∈ p
        · rw [if_pos (List.mem_cons_of_mem _ r), if_neg q, if_pos r]; omega
        · rw [if_neg (fun h => (List.mem_cons.mp h).elim q r), if_neg q, if_neg r]; rfl
    rw [List.map_cons, List.sum_cons, ih, e, sumN_add, sumN_one (a := x) (hl x (List.mem_cons_self ..)) (fun i _ h => if_neg h), if_pos rfl]
/-- the sign that a list tells of a row -/
def signOf : List Nat → List Int → Nat → Int
  | r :: p, s :: ss, i => if i = r then s else signOf p ss i
  | _, _, _ => 1
theorem signOf_pm : ∀ {p : List Nat} {ss : List Int}, PM ss → ∀ i, signOf p ss i = 1 ∨ signOf p ss i = -1
  | [], _, _, _ => .inl rfl
  | _ :: _, [], _, _ => .inl rfl
  | r :: p, s :: ss, h, i => by
    unfold signOf
    by_cases q : i = r
    · rw [if_pos q]; exact h s (List.mem_cons_self ..)
    · rw [if_neg q]; exact signOf_pm (fun x hx => h x (List.mem_cons_of_mem _ hx)) i
theorem zip_sign (f : Nat → Int) : ∀ {p : List Nat} {ss : List Int}, p.Nodup → ss.length = p.length → List.zipWith (fun r s => s * f r) p ss = p.map fun r => signOf p ss r * f r
  | [], [], _, _ => rfl
  | [], _ :: _, _, h => by cases h
  | _ :: _, [], _, h => by cases h
  | r :: p, s :: ss, hn, h => by
    obtain ⟨h1, h2⟩ := List.nodup_cons.mp hn
    rw [List.zipWith_cons_cons, zip_sign f h2 (by simpa using h), List.map_cons]
    congr 1
    · unfold signOf; rw [if_pos rfl]
    · refine List.map_congr_left fun x hx => ?_
      conv => rhs; unfold signOf
      rw [if_neg (fun e => h1 (by rw [← e]; exact hx))]
theorem colSum_eq {S : Tab} {m : Nat} {p : List Nat} {ss : List Int} (hp : Rise m p) (hl : ss.length = p.length) (c : Nat) : colSum S p ss c = sumN m (fun i => if i ∈ p then signOf p ss i * ent S i c else 0) := by
  have hn : p.Nodup := hp.lt.imp fun h => Nat.ne_of_lt h
  unfold colSum
  rw [zip_sign (fun r => ent S r c) hn hl, sum_rows (m := m) (fun r => signOf p ss r * ent S r c) hn hp.le]
theorem uni_gh {S : Tab} {m n : Nat} : Uni S m n ↔ GH m n (ent S) := by
  constructor
  · intro h R
    by_cases hp : (List.range m).filter R = []
    · refine ⟨fun _ => 1, fun _ => .inl rfl, fun j _ => ?_⟩
      rw [sumN_zero fun i hi => if_neg fun hR => by
        have : i ∈ (List.range m).filter R := List.mem_filter.mpr ⟨List.mem_range.mpr hi, hR⟩
        rw [hp] at this; cases this]
      omega
    · have hr : Rise m ((List.range m).filter R) := ⟨List.Pairwise.filter _ List.pairwise_lt_range, fun x hx => List.mem_range.mp (List.mem_filter.mp hx).1⟩
      obtain ⟨ss, hl, pm, r⟩ := h _ (mem_allPicksN.mpr ⟨hp, hr⟩)
      refine ⟨signOf ((List.range m).filter R) ss, signOf_pm pm, fun j hj => ?_⟩
      have q := r j hj
      rw [colSum_eq hr hl] at q
      rw [sumN_congr fun i hi => (by
        by_cases z : R i = true
        · rw [if_pos z, if_pos (List.mem_filter.mpr ⟨List.mem_range.mpr hi, z⟩)]
        · rw [if_neg z, if_neg (fun h => z (List.mem_filter.mp h).2)] : (if R i = true then signOf ((List.range m).filter R) ss i * ent S i j else 0) = (if i ∈ (List.range m).filter R then signOf ((List.range m).filter R) ss i * ent S i j else 0))]
      exact q
  · intro h p hp
    obtain ⟨hne, hr⟩ := mem_allPicksN.mp hp
    have hn : p.Nodup := hr.lt.imp fun h => Nat.ne_of_lt h
    obtain ⟨e, he, hs⟩ := h (fun i => decide (i ∈ p))
    refine ⟨p.map e, List.length_map _, fun s hs => ?_, fun c hc => ?_⟩
    · obtain ⟨i, _, rfl⟩ := List.mem_map.mp hs; exact he i
    · have q := hs c hc
      have e1 : colSum S p (p.map e) c = (p.map fun r => e r * ent S r c).sum := by
        unfold colSum
        congr 1
        clear hp hne hr hn hs q
        induction p with
        | nil => rfl
        | cons x p ih => rw [List.map_cons, List.zipWith_cons_cons, List.map_cons, ih]
      rw [e1, sum_rows (m := m) (fun r => e r * ent S r c) hn hr.le]
      rw [sumN_congr fun i _ => (by simp : (if decide (i ∈ p) = true then e i * ent S i c else 0) = (if i ∈ p then e i * ent S i c else 0))] at q
      exact q
/-! ### all sums of some rows, the law's way -/
def rowAt (S : Tab) (n i : Nat) : List Int := (List.range n).map fun c => ent S i c
def sumsN (S : Tab) (n : Nat) (p : List Nat) : List (List Int) :=
  p.foldl (fun acc i => acc.map (fun v => List.zipWith (· + ·) v (rowAt S n i)) ++ acc.map (fun v => List.zipWith (· - ·) v (rowAt S n i))) [List.replicate n 0]
/-- the vector of the sums -/
def vecN (S : Tab) (n : Nat) (p : List Nat) (ss : List Int) : List Int := (List.range n).map fun c => colSum S p ss c
theorem colSum_snoc {S : Tab} {p : List Nat} {ss : List Int} (hl : ss.length = p.length) (i : Nat) (s : Int) (c : Nat) : colSum S (p ++ [i]) (ss ++ [s]) c = colSum S p ss c + s * ent S i c := by
  unfold colSum
  rw [List.zipWith_append hl.symm, List.sum_append]
  simp
theorem vec_add {S : Tab} {n : Nat} {p : List Nat} {ss : List Int} (hl : ss.length = p.length) (i : Nat) : List.zipWith (· + ·) (vecN S n p ss) (rowAt S n i) = vecN S n (p ++ [i]) (ss ++ [1]) := by
  unfold vecN rowAt
  rw [List.zipWith_map_left, List.zipWith_map_right, List.zipWith_self]
  exact List.map_congr_left fun c _ => by rw [colSum_snoc hl, Int.one_mul]
theorem vec_sub {S : Tab} {n : Nat} {p : List Nat} {ss : List Int} (hl : ss.length = p.length) (i : Nat) : List.zipWith (· - ·) (vecN S n p ss) (rowAt S n i) = vecN S n (p ++ [i]) (ss ++ [-1]) := by
  unfold vecN rowAt
  rw [List.zipWith_map_left, List.zipWith_map_right, List.zipWith_self]
  exact List.map_congr_left fun c _ => by rw [colSum_snoc hl]; omega
theorem sumsN_snoc (S : Tab) (n : Nat) (p : List Nat) (i : Nat) : sumsN S n (p ++ [i]) = (sumsN S n p).map (fun v => List.zipWith (· + ·) v (rowAt S n i)) ++ (sumsN S n p).map (fun v => List.zipWith (· - ·) v (rowAt S n i)) := by
  unfold sumsN
  rw [List.foldl_append]; rfl
theorem vecN_nil (S : Tab) (n : Nat) : vecN S n [] [] = List.replicate n 0 := by
  unfold vecN
  rw [List.eq_replicate_iff]
  exact ⟨by simp, fun b hb => by obtain ⟨c, _, rfl⟩ := List.mem_map.mp hb; rfl⟩
theorem mem_sumsN {S : Tab} {n : Nat} : ∀ (k : Nat) (p : List Nat), p.length = k → ∀ v, v ∈ sumsN S n p ↔ ∃ ss : List Int, ss.length = p.length ∧ PM ss ∧ v = vecN S n p ss
  | 0, p, h, v => by
    have e := List.length_eq_zero_iff.mp h
    subst e
    show v ∈ [List.replicate n 0] ↔ _
    rw [List.mem_singleton]
    constructor
    · rintro rfl; exact ⟨[], rfl, fun s h => (by cases h), (vecN_nil S n).symm⟩
    · rintro ⟨ss, h1, _, rfl⟩
      have e := List.length_eq_zero_iff.mp h1
      subst e
      exact vecN_nil S n
  | k + 1, p, h, v => by
    rcases List.eq_nil_or_concat p with rfl | ⟨q, i, rfl⟩
    · cases h
    · rw [List.concat_eq_append] at h ⊢
      have hq : q.length = k := by rw [List.length_append] at h; simpa using h
      rw [sumsN_snoc, List.mem_append, List.mem_map, List.mem_map]
      constructor
      · rintro (⟨u, hu, rfl⟩ | ⟨u, hu, rfl⟩)
        · obtain ⟨ss, h1, h2, rfl⟩ := (mem_sumsN k q hq u).mp hu
          exact ⟨ss ++ [1], by rw [List.length_append, List.length_append, h1]; rfl, fun s hs => (List.mem_append.mp hs).elim (h2 s) fun z => .inl (List.mem_singleton.mp z), vec_add h1 i⟩
        · obtain ⟨ss, h1, h2, rfl⟩ := (mem_sumsN k q hq u).mp hu
          exact ⟨ss ++ [-1], by rw [List.length_append, List.length_append, h1]; rfl, fun s hs => (List.mem_append.mp hs).elim (h2 s) fun z => .inr (List.mem_singleton.mp z), vec_sub h1 i⟩
      · rintro ⟨ss, h1, h2, rfl⟩
        rcases List.eq_nil_or_concat ss with rfl | ⟨tt, s, rfl⟩
        · rw [List.length_append] at h1; cases h1
        · rw [List.concat_eq_append] at h1 h2 ⊢
          have ht : tt.length = q.length := by rw [List.length_append, List.length_append] at h1; simpa using h1
          have hp : PM tt := fun x hx => h2 x (List.mem_append_left _ hx)
          have hin := (mem_sumsN k q hq (vecN S n q tt)).mpr ⟨tt, ht, hp, rfl⟩
          rcases h2 s (List.mem_append_right _ (List.mem_singleton.mpr rfl)) with rfl | rfl
          · exact .inl ⟨_, hin, vec_add ht i⟩
          · exact .inr ⟨_, hin, vec_sub ht i⟩
/-- some sum within -1 and 1 -/
theorem has_sums {S : Tab} {n : Nat} {p : List Nat} : Has S n p ↔ ∃ v ∈ sumsN S n p, ∀ x ∈ v, -1 ≤ x ∧ x ≤ 1 := by
  constructor
  · rintro ⟨ss, h1, h2, h3⟩
    refine ⟨_, (mem_sumsN _ p rfl _).mpr ⟨ss, h1, h2, rfl⟩, fun x hx => ?_⟩
    obtain ⟨c, hc, rfl⟩ := List.mem_map.mp hx
    exact h3 c (List.mem_range.mp hc)
  · rintro ⟨v, hv, hx⟩
    obtain ⟨ss, h1, h2, rfl⟩ := (mem_sumsN _ p rfl _).mp hv
    exact ⟨ss, h1, h2, fun c hc => hx _ (List.mem_map.mpr ⟨c, List.mem_range.mpr hc, rfl⟩)⟩
theorem sumsN_len (S : Tab) (n : Nat) : ∀ (k : Nat) (p : List Nat), p.length = k → (sumsN S n p).length = 2 ^ k
  | 0, p, h => by
    have e := List.length_eq_zero_iff.mp h
    subst e; rfl
  | k + 1, p, h => by
    rcases List.eq_nil_or_concat p with rfl | ⟨q, i, rfl⟩
    · cases h
    · rw [List.concat_eq_append] at h ⊢
      have hq : q.length = k := by rw [List.length_append] at h; simpa using h
      rw [sumsN_snoc, List.length_append, List.length_map, List.length_map, sumsN_len S n k q hq, Nat.pow_succ]
      omega
/-! ### the law's own picks -/
def lawPicksN : Nat → Nat → List (List Nat)
  | _, 0 => [[]]
  | many, s + 1 => (List.range many).flatMap fun f => (lawPicksN (many - f - 1) s).map fun r => f :: r.map (f + 1 + ·)
theorem lawPicks_eq : ∀ many, many < 6 → ∀ s, s < 6 → lawPicksN many s = picksN many s := by decide +kernel
end K62
end
section
set_option autoImplicit false
set_option maxRecDepth 100000
namespace K62
/-! joining: labels of rows and columns -/
structure JS where
  lr : List Nat
  lc : List Nat
  js : List Spot
  left : List Spot
def swapL (old new : Nat) (l : List Nat) : List Nat := l.map fun x => if x = old then new else x
def jstep (T : Nat → Nat → Int) (st : JS) (s : Spot) : JS :=
  if T s.1 s.2 = 1 then
    if st.lc.getD s.2 0 = st.lr.getD s.1 0 then { st with left := st.left ++ [s] }
    else ⟨swapL (st.lc.getD s.2 0) (st.lr.getD s.1 0) st.lr, swapL (st.lc.getD s.2 0) (st.lr.getD s.1 0) st.lc, st.js ++ [s], st.left⟩
  else st
def jbeg (m n : Nat) : JS := ⟨List.range m, (List.range n).map fun j => m + j, [], []⟩
def jrun (T : Nat → Nat → Int) (m n : Nat) (l : List Spot) : JS := l.foldl (jstep T) (jbeg m n)
def rowSpots (n i : Nat) : List Spot := (List.range n).map fun j => (i, j)
def spotsOf (m n : Nat) : List Spot := (List.range m).flatMap fun i => rowSpots n i
theorem mem_spots {m n : Nat} {s : Spot} : s ∈ spotsOf m n ↔ s.1 < m ∧ s.2 < n := by
  unfold spotsOf rowSpots
  constructor
  · intro h
    obtain ⟨i, hi, h⟩ := List.mem_flatMap.mp h
    obtain ⟨j, hj, rfl⟩ := List.mem_map.mp h
    exact ⟨List.mem_range.mp hi, List.mem_range.mp hj⟩
  · intro h
    exact List.mem_flatMap.mpr ⟨s.1, List.mem_range.mpr h.1, List.mem_map.mpr ⟨s.2, List.mem_range.mpr h.2, rfl⟩⟩
theorem spots_nodup (m n : Nat) : (spotsOf m n).Nodup := by
  induction m with
  | zero => simp [spotsOf]
  | succ m ih =>
    unfold spotsOf at ih ⊢
    rw [List.range_succ, List.flatMap_append]
    refine List.nodup_append.mpr ⟨ih, ?_, fun a ha b hb => ?_⟩
    · rw [List.flatMap_singleton]
      unfold rowSpots
      refine List.pairwise_map.mpr ((List.nodup_range (n := n)).imp fun h e => h ?_)
      injection e
    · rw [List.flatMap_singleton] at hb
      obtain ⟨i, hi, ha⟩ := List.mem_flatMap.mp ha
      obtain ⟨j, _, rfl⟩ := List.mem_map.mp ha
      obtain ⟨j', _, rfl⟩ := List.mem_map.mp hb
      intro e
      injection e with e _
      have := List.mem_range.mp hi
      omega
/-- the joined part of a table -/
def jP (js : List Spot) (a b : Nat) : Int := if (a, b) ∈ js then 1 else 0
def lab (st : JS) : Nd → Nat
  | .row a => st.lr.getD a 0
  | .col b => st.lc.getD b 0
structure JInv (T : Nat → Nat → Int) (m n : Nat) (dn : List Spot) (st : JS) : Prop where
  lr : st.lr.length = m
  lc : st.lc.length = n
  one : ∀ s ∈ st.js, s ∈ dn ∧ T s.1 s.2 = 1 ∧ s.1 < m ∧ s.2 < n
  eq : ∀ s ∈ st.js, lab st (.row s.1) = lab st (.col s.2)
  conn : ∀ x y, x ∈ nodes m n → y ∈ nodes m n → lab st x = lab st y → ∃ w, Way (jP st.js) x y w
  left : st.left = dn.filter fun s => decide (T s.1 s.2 = 1 ∧ s ∉ st.js)
  way : ∀ s ∈ st.left, ∃ w, Way (jP st.js) (.row s.1) (.col s.2) w
  scale : ∀ S : Nat → Nat → Int, (∀ a b, T a b = 1 → S a b = 1 ∨ S a b = -1) → ∃ x y : Nat → Int, (∀ a, x a = 1 ∨ x a = -1) ∧ (∀ b, y b = 1 ∨ y b = -1) ∧ ∀ s ∈ st.js, x s.1 * S s.1 s.2 * y s.2 = 1
theorem node_row {m n a : Nat} : Nd.row a ∈ nodes m n ↔ a < m := by simp [nodes]
theorem node_col {m n b : Nat} : Nd.col b ∈ nodes m n ↔ b < n := by simp [nodes]
theorem JInv.beg (T : Nat → Nat → Int) (m n : Nat) : JInv T m n [] (jbeg m n) where
  lr := by simp [jbeg]
  lc := by simp [jbeg]
  one := fun s h => by cases h
  eq := fun s h => by cases h
  conn := fun x y hx hy h => by
    have hr : ∀ a, a < m → lab (jbeg m n) (.row a) = a := fun a ha => by simp [lab, jbeg, List.getD_eq_getElem?_getD, ha]
    have hc : ∀ b, b < n → lab (jbeg m n) (.col b) = m + b := fun b hb => by simp [lab, jbeg, List.getD_eq_getElem?_getD, hb]
    have e : x = y := by
      cases x with
      | row a =>
        have ha := node_row.mp hx
        cases y with
        | row a' => rw [hr a ha, hr a' (node_row.mp hy)] at h; rw [h]
        | col b => rw [hr a ha, hc b (node_col.mp hy)] at h; omega
      | col b =>
        have hb := node_col.mp hx
        cases y with
        | row a => rw [hc b hb, hr a (node_row.mp hy)] at h; have := node_row.mp hy; omega
        | col b' => rw [hc b hb, hc b' (node_col.mp hy)] at h; rw [show b = b' by omega]
    subst e
    exact ⟨[], .nil⟩
  left := rfl
  way := fun s h => by cases h
  scale := fun S _ => ⟨fun _ => 1, fun _ => 1, fun _ => .inl rfl, fun _ => .inl rfl, fun s h => by cases h⟩
theorem jP_mono {js : List Spot} {s : Spot} : ∀ a b, jP js a b ≠ 0 → jP (js ++ [s]) a b ≠ 0 := fun a b h => by
  unfold jP at h ⊢
  by_cases z : (a, b) ∈ js
  · rw [if_pos (List.mem_append_left _ z)]; decide
  · rw [if_neg z] at h; exact absurd rfl h
theorem getD_swap {old new : Nat} {l : List Nat} {a : Nat} (ha : a < l.length) : (swapL old new l).getD a 0 = if l.getD a 0 = old then new else l.getD a 0 := by
  unfold swapL
  simp [List.getD_eq_getElem?_getD, ha]
theorem pm_sq {t : Int} (h : t = 1 ∨ t = -1) : t * t = 1 := by rcases h with rfl | rfl <;> decide
theorem pm_pm {t u : Int} (h : t = 1 ∨ t = -1) (h2 : u = 1 ∨ u = -1) : t * u = 1 ∨ t * u = -1 := by rcases h with rfl | rfl <;> rcases h2 with rfl | rfl <;> decide
theorem JInv.step {T : Nat → Nat → Int} {m n : Nat} {dn : List Spot} {st : JS} (h : JInv T m n dn st) {s : Spot} (hs : s ∉ dn) (hm : s.1 < m) (hn : s.2 < n) : JInv T m n (dn ++ [s]) (jstep T st s) := by
  obtain ⟨i, j⟩ := s
  have old : ∀ {js : List Spot}, (∀ x ∈ js, x ∈ dn) → ¬ ((i, j) ∈ js) := fun hj z => hs (hj _ z)
  unfold jstep
  by_cases h1 : T i j = 1
  · rw [if_pos h1]
    by_cases h2 : st.lc.getD j 0 = st.lr.getD i 0
    · rw [if_pos h2]
      refine ⟨h.lr, h.lc, fun x hx => ?_, h.eq, h.conn, ?_, fun x hx => ?_, h.scale⟩
      · obtain ⟨a, b⟩ := h.one x hx
        exact ⟨List.mem_append_left _ a, b⟩
      · show st.left ++ [(i, j)] = _
        rw [List.filter_append, ← h.left]
        have e : decide (T (i, j).1 (i, j).2 = 1 ∧ (i, j) ∉ st.js) = true := decide_eq_true ⟨h1, old fun x hx => (h.one x hx).1⟩
        show _ = _ ++ List.filter (fun s => decide (T s.1 s.2 = 1 ∧ s ∉ st.js)) [(i, j)]
        rw [List.filter_cons, if_pos e]; rfl
      · rcases List.mem_append.mp hx with hx | hx
        · exact h.way x hx
        · obtain rfl := List.mem_singleton.mp hx
          exact h.conn _ _ (node_row.mpr hm) (node_col.mpr hn) h2.symm
    · rw [if_neg h2]
      have li : i < st.lr.length := by rw [h.lr]; exact hm
      have lj : j < st.lc.length := by rw [h.lc]; exact hn
      have hlab : ∀ x, x ∈ nodes m n → lab ⟨swapL (st.lc.getD j 0) (st.lr.getD i 0) st.lr, swapL (st.lc.getD j 0) (st.lr.getD i 0) st.lc, st.js ++ [(i, j)], st.left⟩ x = if lab st x = st.lc.getD j 0 then st.lr.getD i 0 else lab st x := fun x hx => by
        cases x with
        | row a => exact getD_swap (by rw [h.lr]; exact node_row.mp hx)
        | col b => exact getD_swap (by rw [h.lc]; exact node_col.mp hx)
      have hi : Nd.row i ∈ nodes m n := node_row.mpr hm
      have hj : Nd.col j ∈ nodes m n := node_col.mpr hn
      have new1 : jP (st.js ++ [(i, j)]) i j ≠ 0 := by unfold jP; rw [if_pos (List.mem_append_right _ (List.mem_singleton.mpr rfl))]; decide
      have up : ∀ {x y : Nd}, (∃ w, Way (jP st.js) x y w) → ∃ w, Way (jP (st.js ++ [(i, j)])) x y w := fun ⟨w, hw⟩ => ⟨w, hw.mono jP_mono⟩
      have cross : ∀ {x y : Nd}, x ∈ nodes m n → y ∈ nodes m n → lab st x = st.lc.getD j 0 → lab st y = st.lr.getD i 0 → ∃ w, Way (jP (st.js ++ [(i, j)])) x y w := fun {x y} hx hy e1 e2 => by
        obtain ⟨w1, q1⟩ := up (h.conn x (.col j) hx hj e1)
        obtain ⟨w2, q2⟩ := up (h.conn (.row i) y hi hy e2.symm)
        exact ⟨_, (Way.cr q1 new1).trans q2⟩
      refine ⟨by unfold swapL; rw [List.length_map]; exact h.lr, by unfold swapL; rw [List.length_map]; exact h.lc, fun x hx => ?_, fun x hx => ?_, fun x y hx hy e => ?_, ?_, fun x hx => ?_, fun S hS => ?_⟩
      · rcases List.mem_append.mp hx with hx | hx
        · obtain ⟨a, b⟩ := h.one x hx
          exact ⟨List.mem_append_left _ a, b⟩
        · obtain rfl := List.mem_singleton.mp hx
          exact ⟨List.mem_append_right _ hx, h1, hm, hn⟩
      · rcases List.mem_append.mp hx with hx | hx
        · obtain ⟨_, _, a, b⟩ := h.one x hx
          rw [hlab _ (node_row.mpr a), hlab _ (node_col.mpr b), h.eq x hx]
        · obtain rfl := List.mem_singleton.mp hx
          rw [hlab _ hi, hlab _ hj]
          show (if st.lr.getD i 0 = st.lc.getD j 0 then _ else st.lr.getD i 0) = if st.lc.getD j 0 = st.lc.getD j 0 then _ else _
          rw [if_pos rfl, if_neg fun z => h2 z.symm]
      · rw [hlab x hx, hlab y hy] at e
        by_cases c1 : lab st x = st.lc.getD j 0
        · by_cases c2 : lab st y = st.lc.getD j 0
          · exact up (h.conn x y hx hy (c1.trans c2.symm))
          · rw [if_pos c1, if_neg c2] at e
            exact cross hx hy c1 e.symm
        · by_cases c2 : lab st y = st.lc.getD j 0
          · rw [if_neg c1, if_pos c2] at e
            obtain ⟨w, hw⟩ := cross hy hx c2 e
            exact hw.symm
          · rw [if_neg c1, if_neg c2] at e
            exact up (h.conn x y hx hy e)
      · show st.left = _
        rw [List.filter_append, List.filter_cons_of_neg (by simp), List.filter_nil, List.append_nil, h.left]
        refine List.filter_congr fun x hx => ?_
        have ne : x ≠ (i, j) := fun z => hs (z ▸ hx)
        simp [ne]
      · exact up (h.way x hx)
      · obtain ⟨x, y, hx, hy, hk⟩ := h.scale S hS
        let t := x i * S i j * y j
        have ht : t = 1 ∨ t = -1 := pm_pm (pm_pm (hx i) (hS i j h1)) (hy j)
        refine ⟨fun a => if lab st (.row a) = st.lc.getD j 0 then t * x a else x a, fun b => if lab st (.col b) = st.lc.getD j 0 then t * y b else y b, fun a => ?_, fun b => ?_, fun z hz => ?_⟩
        · dsimp only
          split
          · exact pm_pm ht (hx a)
          · exact hx a
        · dsimp only
          split
          · exact pm_pm ht (hy b)
          · exact hy b
        · dsimp only
          rcases List.mem_append.mp hz with hz | hz
          · rw [← h.eq z hz]
            split
            · have e := hk z hz
              rw [show t * x z.1 * S z.1 z.2 * (t * y z.2) = (t * t) * (x z.1 * S z.1 z.2 * y z.2) by
                rw [Int.mul_assoc t t, Int.mul_assoc t (x z.1), Int.mul_assoc t, Int.mul_left_comm _ t], pm_sq ht, e]; rfl
            · exact hk z hz
          · obtain rfl := List.mem_singleton.mp hz
            rw [if_neg (show ¬ lab st (.row i) = st.lc.getD j 0 from fun z => h2 z.symm), if_pos (show lab st (.col j) = st.lc.getD j 0 from rfl)]
            show x i * S i j * (t * y j) = 1
            rw [Int.mul_left_comm, ← Int.mul_assoc]
            show t * (x i * S i j) * y j = 1
            rw [Int.mul_assoc]
            exact pm_sq ht
  · rw [if_neg h1]
    refine ⟨h.lr, h.lc, fun x hx => ?_, h.eq, h.conn, ?_, h.way, h.scale⟩
    · obtain ⟨a, b⟩ := h.one x hx
      exact ⟨List.mem_append_left _ a, b⟩
    · rw [List.filter_append, ← h.left, List.filter_cons_of_neg (by simp [h1]), List.filter_nil, List.append_nil]
theorem JInv.run (T : Nat → Nat → Int) (m n : Nat) : ∀ (l dn : List Spot) (st : JS), JInv T m n dn st → (dn ++ l).Nodup → (∀ s ∈ l, s.1 < m ∧ s.2 < n) → JInv T m n (dn ++ l) (l.foldl (jstep T) st)
  | [], dn, st, h, _, _ => by rw [List.append_nil]; exact h
  | s :: l, dn, st, h, hn, hl => by
    have e : dn ++ s :: l = (dn ++ [s]) ++ l := by simp
    rw [e] at hn ⊢
    have h1 := hl s (List.mem_cons_self ..)
    have h2 := (List.nodup_append.mp hn).1
    refine JInv.run T m n l (dn ++ [s]) _ (h.step (fun z => ?_) h1.1 h1.2) hn fun x hx => hl x (List.mem_cons_of_mem _ hx)
    exact (List.nodup_append.mp h2).2.2 s z s (List.mem_singleton.mpr rfl) rfl
theorem JInv.all (T : Nat → Nat → Int) (m n : Nat) : JInv T m n (spotsOf m n) (jrun T m n (spotsOf m n)) := by
  have := JInv.run T m n (spotsOf m n) [] (jbeg m n) (.beg T m n) (by simpa using spots_nodup m n) fun s hs => mem_spots.mp hs
  simp only [List.nil_append] at this
  exact this
/-- signs turned by rows and columns -/
theorem GH.turn {m n : Nat} {S : Nat → Nat → Int} (h : GH m n S) {x y : Nat → Int} (hx : ∀ a, x a = 1 ∨ x a = -1) (hy : ∀ b, y b = 1 ∨ y b = -1) : GH m n fun a b => x a * S a b * y b := by
  intro R
  obtain ⟨e, he, hb⟩ := h R
  refine ⟨fun i => e i * x i, fun i => pm_pm (he i) (hx i), fun j hj => ?_⟩
  have hs : sumN m (fun i => if R i = true then e i * x i * (x i * S i j * y j) else 0) = y j * sumN m (fun i => if R i = true then e i * S i j else 0) := by
    rw [← sumN_mul]
    refine sumN_congr fun i _ => ?_
    split
    · rw [show e i * x i * (x i * S i j * y j) = (x i * x i) * (y j * (e i * S i j)) by
        rw [Int.mul_comm (e i), Int.mul_comm (x i * S i j), Int.mul_assoc (x i), Int.mul_left_comm (e i), Int.mul_left_comm (e i) (x i), Int.mul_assoc (x i) (x i), Int.mul_left_comm (y j) (x i)], pm_sq (hx i), Int.one_mul]
    · rw [Int.mul_zero]
  obtain ⟨h1, h2⟩ := hb j hj
  show -1 ≤ sumN m (fun i => if R i = true then e i * x i * (x i * S i j * y j) else 0) ∧ sumN m (fun i => if R i = true then e i * x i * (x i * S i j * y j) else 0) ≤ 1
  rw [hs]
  rcases hy j with z | z
  · rw [z, Int.one_mul]; exact ⟨h1, h2⟩
  · rw [z]; omega
end K62
end
section
set_option autoImplicit false
set_option maxRecDepth 100000
namespace K62
/-! the signs that are forced -/
/-- signs for the ones of T -/
def Sgn (T U : Nat → Nat → Int) : Prop := ∀ a b, (T a b = 1 → U a b = 1 ∨ U a b = -1) ∧ (T a b ≠ 1 → U a b = 0)
theorem Sgn.one {T U : Nat → Nat → Int} (h : Sgn T U) (a b : Nat) : U a b = 0 ∨ U a b = 1 ∨ U a b = -1 := by
  by_cases z : T a b = 1
  · exact .inr ((h a b).1 z)
  · exact .inl ((h a b).2 z)
theorem Sgn.ne {T U : Nat → Nat → Int} (h : Sgn T U) {a b : Nat} : U a b ≠ 0 ↔ T a b = 1 := by
  constructor
  · intro e
    by_cases z : T a b = 1
    · exact z
    · exact absurd ((h a b).2 z) e
  · intro z
    rcases (h a b).1 z with e | e <;> rw [e] <;> decide
structure FInv (T : Nat → Nat → Int) (m n : Nat) (js : List Spot) (left : List Spot) (P : Nat → Nat → Int) : Prop where
  one : ∀ a b, P a b = 0 ∨ P a b = 1 ∨ P a b = -1
  inT : ∀ a b, P a b ≠ 0 → T a b = 1
  nd : left.Nodup
  out : ∀ s ∈ left, T s.1 s.2 = 1 ∧ P s.1 s.2 = 0
  all : ∀ a b, T a b = 1 → P a b = 0 → (a, b) ∈ left
  conn : ∀ s ∈ left, ∃ w, Way P (.row s.1) (.col s.2) w
  stood : ∀ s ∈ js, P s.1 s.2 = 1
  agree : ∀ U, Sgn T U → GH m n U → (∀ s ∈ js, U s.1 s.2 = 1) → ∀ a b, P a b ≠ 0 → P a b = U a b
/-- one place more -/
def setP (P : Nat → Nat → Int) (s : Spot) (v : Int) : Nat → Nat → Int := fun a b => if (a, b) = s then v else P a b
theorem FInv.step {T : Nat → Nat → Int} {m n : Nat} {js left : List Spot} {P : Nat → Nat → Int} (h : FInv T m n js left P) (inn : ∀ a b, T a b = 1 → a < m ∧ b < n) {s : Spot} {w : List Spot} (hs : s ∈ left) (hw : Short P s.1 s.2 w)
    (least : ∀ s' ∈ left, ∀ v, Way P (.row s'.1) (.col s'.2) v → w.length ≤ v.length) : FInv T m n js (left.erase s) (setP P s (if (spotSum P w + 1) % 4 = 0 then 1 else -1)) := by
  have hv : (if (spotSum P w + 1) % 4 = 0 then (1 : Int) else -1) = 1 ∨ (if (spotSum P w + 1) % 4 = 0 then (1 : Int) else -1) = -1 := by split <;> simp
  generalize e : (if (spotSum P w + 1) % 4 = 0 then (1 : Int) else -1) = v at hv
  obtain ⟨hT, h0⟩ := h.out s hs
  have old : ∀ a b, (a, b) ≠ s → setP P s v a b = P a b := fun a b z => if_neg z
  have new : setP P s v s.1 s.2 = v := if_pos rfl
  have mono : ∀ a b, P a b ≠ 0 → setP P s v a b ≠ 0 := fun a b z => by
    rw [old a b fun q => z (by rw [← h0, ← q])]; exact z
  refine ⟨fun a b => ?_, fun a b z => ?_, h.nd.erase s, fun x hx => ?_, fun a b hab z => ?_, fun x hx => ?_, fun x hx => ?_, fun U hU hG hj a b z => ?_⟩
  · by_cases q : (a, b) = s
    · rw [show setP P s v a b = v from if_pos q]; exact .inr hv
    · rw [old a b q]; exact h.one a b
  · by_cases q : (a, b) = s
    · rw [← q] at hT; exact hT
    · rw [old a b q] at z; exact h.inT a b z
  · obtain ⟨q, hx'⟩ := (h.nd.mem_erase_iff).mp hx
    rw [old x.1 x.2 q]; exact h.out x hx'
  · have q : (a, b) ≠ s := fun q => by
      rw [show setP P s v a b = v from if_pos q] at z
      rcases hv with hv | hv <;> rw [hv] at z <;> exact absurd z (by decide)
    rw [old a b q] at z
    exact (h.nd.mem_erase_iff).mpr ⟨q, h.all a b hab z⟩
  · obtain ⟨q, hx'⟩ := (h.nd.mem_erase_iff).mp hx
    obtain ⟨w', hw'⟩ := h.conn x hx'
    exact ⟨w', hw'.mono mono⟩
  · rw [old x.1 x.2 fun q => ?_]
    · exact h.stood x hx
    · have := h.stood x hx
      rw [← q] at h0
      rw [show P x.1 x.2 = 0 from h0] at this
      exact absurd this (by decide)
  · by_cases q : (a, b) = s
    · subst q
      rw [show setP P (a, b) v a b = v from if_pos rfl]
      have := forced_one (P := P) hU.one (fun a b z => inn a b (hU.ne.mp z)) (fun a b z => h.agree U hU hG hj a b z) (hU.ne.mpr hT) h0 hw (fun i' j' v' z1 z2 hv' => least (i', j') (h.all i' j' (hU.ne.mp z1) z2) v' hv') hG
      rw [this]; exact e.symm
    · rw [old a b q] at z ⊢
      exact h.agree U hU hG hj a b z
theorem FInv.done {T : Nat → Nat → Int} {m n : Nat} {js : List Spot} {P : Nat → Nat → Int} (h : FInv T m n js [] P) (h01 : ∀ a b, T a b = 0 ∨ T a b = 1) : Sgn T P ∧ ∀ U, Sgn T U → GH m n U → (∀ s ∈ js, U s.1 s.2 = 1) → ∀ a b, U a b = P a b := by
  have hs : Sgn T P := fun a b => ⟨fun z => ?_, fun z => ?_⟩
  · refine ⟨hs, fun U hU hG hj a b => ?_⟩
    by_cases z : P a b = 0
    · have : T a b ≠ 1 := fun q => by cases h.all a b q z
      rw [(hU a b).2 this, z]
    · exact (h.agree U hU hG hj a b z).symm
  · rcases h.one a b with q | q
    · cases h.all a b z q
    · exact q
  · by_cases q : P a b = 0
    · exact q
    · exact absurd (h.inT a b q) z
/-- at the start: the joined ones -/
theorem FInv.beg {T : Nat → Nat → Int} {m n : Nat} {st : JS} (h : JInv T m n (spotsOf m n) st) (inn : ∀ a b, T a b = 1 → a < m ∧ b < n) : FInv T m n st.js st.left (jP st.js) := by
  have mem : ∀ s, s ∈ st.left ↔ (s.1 < m ∧ s.2 < n) ∧ T s.1 s.2 = 1 ∧ s ∉ st.js := fun s => by
    rw [h.left, List.mem_filter, mem_spots, decide_eq_true_iff]
  have p0 : ∀ a b, jP st.js a b = 0 ↔ (a, b) ∉ st.js := fun a b => by
    unfold jP; by_cases z : (a, b) ∈ st.js
    · simp [z]
    · simp [z]
  refine ⟨fun a b => ?_, fun a b z => ?_, ?_, fun s hs => ?_, fun a b z q => ?_, h.way, fun s hs => if_pos hs, fun U hU hG hj a b z => ?_⟩
  · unfold jP; split
    · exact .inr (.inl rfl)
    · exact .inl rfl
  · have hm : (a, b) ∈ st.js := by
      by_cases q : (a, b) ∈ st.js
      · exact q
      · exact absurd ((p0 a b).mpr q) z
    exact (h.one _ hm).2.1
  · rw [h.left]; exact (spots_nodup m n).filter _
  · obtain ⟨_, a, b⟩ := (mem s).mp hs
    exact ⟨a, (p0 _ _).mpr b⟩
  · exact (mem (a, b)).mpr ⟨inn a b z, z, (p0 a b).mp q⟩
  · have hm : (a, b) ∈ st.js := by
      by_cases q : (a, b) ∈ st.js
      · exact q
      · exact absurd ((p0 a b).mpr q) z
    rw [hj _ hm]; exact if_pos hm
/-- a signing turned so that the joined ones stand -/
theorem signing_turned {T : Nat → Nat → Int} {m n : Nat} {st : JS} (h : JInv T m n (spotsOf m n) st) {U : Nat → Nat → Int} (hU : Sgn T U) (hG : GH m n U) : ∃ V, Sgn T V ∧ GH m n V ∧ ∀ s ∈ st.js, V s.1 s.2 = 1 := by
  obtain ⟨x, y, hx, hy, hk⟩ := h.scale U fun a b z => (hU a b).1 z
  refine ⟨fun a b => x a * U a b * y b, fun a b => ⟨fun z => pm_pm (pm_pm (hx a) ((hU a b).1 z)) (hy b), fun z => ?_⟩, hG.turn hx hy, hk⟩
  show x a * U a b * y b = 0
  rw [(hU a b).2 z, Int.mul_zero, Int.zero_mul]
/-- some signing is right exactly where the forced one is -/
theorem forced_iff {T : Nat → Nat → Int} {m n : Nat} {st : JS} (h : JInv T m n (spotsOf m n) st) {P : Nat → Nat → Int} (hP : Sgn T P) (hu : ∀ U, Sgn T U → GH m n U → (∀ s ∈ st.js, U s.1 s.2 = 1) → ∀ a b, U a b = P a b) : (∃ U, Sgn T U ∧ GH m n U) ↔ GH m n P := by
  constructor
  · rintro ⟨U, hU, hG⟩
    obtain ⟨V, hV, hGV, hj⟩ := signing_turned h hU hG
    have := hu V hV hGV hj
    rwa [show V = P from funext fun a => funext fun b => this a b] at hGV
  · exact fun hG => ⟨P, hP, hG⟩
end K62
end
section
set_option autoImplicit false
set_option maxRecDepth 100000
namespace K62
/-! pieces by twos -/
def maskN (T : Tab) (m j : Nat) : Nat := ((List.range m).map fun i => (ent T i j).toNat * 2 ^ i).sum
def ptsN (T : Tab) (m n : Nat) : List Nat := (List.range m).map (fun i => 2 ^ i) ++ (List.range n).map fun j => maskN T m j
def xsumsN (ns : List Nat) : List Nat := ns.foldl (fun acc x => acc ++ acc.map fun y => y ^^^ x) [0]
def kfoldN (vs : List Nat) : List (Nat × Nat) := vs.foldl (fun acc v => acc ++ acc.map fun z => (z.1 ^^^ v, z.2 + 1)) [(0, 0)]
def ksumsN (vs : List Nat) : List (Nat × Nat) := (kfoldN vs).drop 1
def getN (d : List (Nat × Nat)) (k : Nat) : Nat := ((d.find? fun z => decide (z.1 = k)).map (·.2)).getD 0
def bump (d : List (Nat × Nat)) (k : Nat) : List (Nat × Nat) := if (d.any fun z => decide (z.1 = k)) = true then d.map (fun z => if z.1 = k then (z.1, getN d k + 1) else z) else d ++ [(k, getN d k + 1)]
def sizesN (reached : List Nat) (sums : List (Nat × Nat)) : List (Nat × Nat) := sums.foldl (fun d z => if z.1 ∈ reached then bump d z.2 else d) []
def SevenP : List (Nat × Nat) := [(3, 7), (4, 7), (7, 1)]
def TurnedP : List (Nat × Nat) := [(4, 7)]
def Tells (d ps : List (Nat × Nat)) : Prop := d.length = ps.length ∧ ∀ z ∈ d, z ∈ ps
instance (d ps : List (Nat × Nat)) : Decidable (Tells d ps) := inferInstanceAs (Decidable (_ ∧ _))
def GoodP (taken kept : List Nat) : Prop := Tells (sizesN (xsumsN taken) (ksumsN kept)) SevenP ∨ Tells (sizesN (xsumsN taken) (ksumsN kept)) TurnedP
instance (a b : List Nat) : Decidable (GoodP a b) := inferInstanceAs (Decidable (_ ∨ _))
def restN (k : Nat) (kept : List Nat) : List Nat := (List.range k).filter fun x => decide (x ∉ kept)
def takensN (rest : List Nat) : List (List Nat) := (List.range (rest.length + 1)).flatMap fun s => (picksN rest.length s).map fun p => p.map fun k => rest.getD k 0
def HasPiece (pts : List Nat) : Prop := ∃ kept ∈ picksN pts.length 7, ∃ taken ∈ takensN (restN pts.length kept), GoodP (taken.map fun k => pts.getD k 0) (kept.map fun k => pts.getD k 0)
theorem xsums_len (ns : List Nat) : (xsumsN ns).length = 2 ^ ns.length := by
  have go : ∀ (ns acc : List Nat), (ns.foldl (fun acc x => acc ++ acc.map fun y => y ^^^ x) acc).length = acc.length * 2 ^ ns.length := by
    intro ns
    induction ns with
    | nil => intro acc; simp
    | cons x ns ih =>
      intro acc
      rw [List.foldl_cons, ih, List.length_append, List.length_map, List.length_cons, Nat.pow_succ, ← Nat.mul_two, Nat.mul_assoc, Nat.mul_comm 2]
  unfold xsumsN
  rw [go]; simp
theorem kfold_len (vs : List Nat) : (kfoldN vs).length = 2 ^ vs.length := by
  have go : ∀ (vs : List Nat) (acc : List (Nat × Nat)), (vs.foldl (fun acc v => acc ++ acc.map fun z => (z.1 ^^^ v, z.2 + 1)) acc).length = acc.length * 2 ^ vs.length := by
    intro vs
    induction vs with
    | nil => intro acc; simp
    | cons x vs ih =>
      intro acc
      rw [List.foldl_cons, ih, List.length_append, List.length_map, List.length_cons, Nat.pow_succ, ← Nat.mul_two, Nat.mul_assoc, Nat.mul_comm 2]
  unfold kfoldN
  rw [go]; simp
theorem bump_len (d : List (Nat × Nat)) (k : Nat) : (bump d k).length ≤ d.length + 1 := by
  unfold bump
  split
  · rw [List.length_map]; omega
  · rw [List.length_append]; exact Nat.le_refl _
theorem sizes_len (reached : List Nat) : ∀ (sums : List (Nat × Nat)) (d : List (Nat × Nat)), (sums.foldl (fun d z => if z.1 ∈ reached then bump d z.2 else d) d).length ≤ d.length + sums.length
  | [], d => Nat.le_refl _
  | z :: sums, d => by
    have h := sizes_len reached sums (if z.1 ∈ reached then bump d z.2 else d)
    have h2 : (if z.1 ∈ reached then bump d z.2 else d).length ≤ d.length + 1 := by
      split
      · exact bump_len _ _
      · omega
    rw [List.foldl_cons, List.length_cons]; omega
end K62
end
section
set_option autoImplicit false
set_option maxRecDepth 100000
namespace K62
/-! nets: each node's way from the root, by the edges that it takes -/
def Linked (eds : List Spot) (many : Nat) : Prop := ∀ A : Nat → Prop, (∀ e ∈ eds, (A e.1 ↔ A e.2)) → ∀ x y, x ≤ many → y ≤ many → (A x ↔ A y)
theorem Linked.perm {eds eds' : List Spot} {many : Nat} (h : Linked eds many) (p : eds'.Perm eds) : Linked eds' many := fun A hA => h A fun e he => hA e (p.mem_iff.mpr he)
abbrev Far := List (Nat × List Int)
def fkeys (F : Far) : List Nat := F.map (·.1)
structure NInv (eds : List Spot) (many : Nat) (F : Far) : Prop where
  nd : (fkeys F).Nodup
  le : ∀ z ∈ F, z.1 ≤ many ∧ z.2.length = many
  ne : F ≠ []
  sgn : ∃ c : Nat → Int, (∀ k, c k = 1 ∨ c k = -1) ∧ ∀ z ∈ F, ∀ k : Nat, z.2.getD k 0 = 0 ∨ z.2.getD k 0 = c k
  edge : ∀ (k u v : Nat), eds[k]? = some (u, v) → (u ∈ fkeys F ∧ v ∈ fkeys F) ∨ ∀ z ∈ F, z.2.getD k 0 = 0
theorem NInv.beg {eds : List Spot} {many r : Nat} (hr : r ≤ many) : NInv eds many [(r, List.replicate many 0)] where
  nd := by simp [fkeys]
  le := fun z hz => by obtain rfl := List.mem_singleton.mp hz; exact ⟨hr, List.length_replicate ..⟩
  ne := by simp
  sgn := ⟨fun _ => 1, fun _ => .inl rfl, fun z hz k => by
    obtain rfl := List.mem_singleton.mp hz
    refine .inl ?_
    rw [List.getD_eq_getElem?_getD, List.getElem?_replicate]
    split <;> rfl⟩
  edge := fun k u v _ => .inr fun z hz => by
    obtain rfl := List.mem_singleton.mp hz
    rw [List.getD_eq_getElem?_getD, List.getElem?_replicate]
    split <;> rfl
theorem NInv.add {eds : List Spot} {many : Nat} {F : Far} (h : NInv eds many F) {k u v x y : Nat} {vec w : List Int} {t : Int} (hk : eds[k]? = some (u, v)) (hx : (x, vec) ∈ F) (hy : y ∉ fkeys F) (hle : y ≤ many) (huv : (x = u ∧ y = v) ∨ (x = v ∧ y = u)) (ht : t = 1 ∨ t = -1)
    (hw : w.length = many) (hwk : ∀ j : Nat, w.getD j 0 = vec.getD j 0 + (if k = j then t else 0)) : NInv eds many (F ++ [(y, w)]) := by
  have hxk : x ∈ fkeys F := List.mem_map.mpr ⟨_, hx, rfl⟩
  have zero : ∀ z ∈ F, z.2.getD k 0 = 0 := by
    rcases h.edge k u v hk with ⟨hu, hv⟩ | z
    · rcases huv with ⟨_, rfl⟩ | ⟨_, rfl⟩
      · exact absurd hv hy
      · exact absurd hu hy
    · exact z
  have keys : fkeys (F ++ [(y, w)]) = fkeys F ++ [y] := by unfold fkeys; rw [List.map_append]; rfl
  refine ⟨?_, fun z hz => ?_, by simp, ?_, fun j a b hj => ?_⟩
  · rw [keys]
    refine List.nodup_append.mpr ⟨h.nd, by simp, fun a ha b hb e => ?_⟩
    obtain rfl := List.mem_singleton.mp hb
    exact hy (e ▸ ha)
  · rcases List.mem_append.mp hz with hz | hz
    · exact h.le z hz
    · obtain rfl := List.mem_singleton.mp hz
      exact ⟨hle, hw⟩
  · obtain ⟨c, hc, hs⟩ := h.sgn
    refine ⟨fun j => if k = j then t else c j, fun j => ?_, fun z hz j => ?_⟩
    · show (if k = j then t else c j) = 1 ∨ (if k = j then t else c j) = -1
      split
      · exact ht
      · exact hc j
    · show _ ∨ _ = (if k = j then t else c j)
      rcases List.mem_append.mp hz with hz | hz
      · by_cases e : k = j
        · subst e; exact .inl (zero z hz)
        · rw [if_neg e]; exact hs z hz j
      · obtain rfl := List.mem_singleton.mp hz
        show w.getD j 0 = 0 ∨ w.getD j 0 = _
        rw [hwk j]
        by_cases e : k = j
        · subst e
          rw [zero (x, vec) hx, if_pos rfl, Int.zero_add, if_pos rfl]
          exact .inr rfl
        · rw [if_neg e, if_neg e, Int.add_zero]; exact hs (x, vec) hx j
  · rw [keys]
    by_cases e : k = j
    · subst e
      rw [hk] at hj
      cases hj
      refine .inl ?_
      rcases huv with ⟨rfl, rfl⟩ | ⟨rfl, rfl⟩
      · exact ⟨List.mem_append_left _ hxk, List.mem_append_right _ (List.mem_singleton.mpr rfl)⟩
      · exact ⟨List.mem_append_right _ (List.mem_singleton.mpr rfl), List.mem_append_left _ hxk⟩
    · rcases h.edge j a b hj with ⟨ha, hb⟩ | z
      · exact .inl ⟨List.mem_append_left _ ha, List.mem_append_left _ hb⟩
      · refine .inr fun q hq => ?_
        rcases List.mem_append.mp hq with hq | hq
        · exact z q hq
        · obtain rfl := List.mem_singleton.mp hq
          show w.getD j 0 = 0
          rw [hwk j, if_neg e, Int.add_zero]
          exact z (x, vec) hx
theorem NInv.few {eds : List Spot} {many : Nat} {F : Far} (h : NInv eds many F) : F.length ≤ many + 1 := by
  have := nodup_le (r := List.range (many + 1)) h.nd fun x hx => by
    obtain ⟨z, hz, rfl⟩ := List.mem_map.mp hx
    exact List.mem_range.mpr (Nat.lt_succ_of_le (h.le z hz).1)
  simpa [fkeys] using this
theorem NInv.full {eds : List Spot} {many : Nat} {F : Far} (h : NInv eds many F) (hl : many < F.length) : ∀ x, x ≤ many → x ∈ fkeys F := fun x hx => by
  by_cases hm : x ∈ fkeys F
  · exact hm
  · have := nodup_le (l := x :: fkeys F) (r := List.range (many + 1)) (List.nodup_cons.mpr ⟨hm, h.nd⟩) fun y hy => by
      rcases List.mem_cons.mp hy with rfl | hy
      · exact List.mem_range.mpr (Nat.lt_succ_of_le hx)
      · obtain ⟨z, hz, rfl⟩ := List.mem_map.mp hy
        exact List.mem_range.mpr (Nat.lt_succ_of_le (h.le z hz).1)
    simp [fkeys] at this
    omega
theorem NInv.closed {eds : List Spot} {many : Nat} {F : Far} (h : NInv eds many F) (L : Linked eds many) (c : ∀ e ∈ eds, (e.1 ∈ fkeys F ↔ e.2 ∈ fkeys F)) : many < F.length := by
  obtain ⟨z, hz⟩ := List.exists_mem_of_ne_nil F h.ne
  have all : ∀ x, x ≤ many → x ∈ fkeys F := fun x hx => (L (fun x => x ∈ fkeys F) c z.1 x (h.le z hz).1 hx).mp (List.mem_map.mpr ⟨z, hz, rfl⟩)
  have := nodup_le (l := List.range (many + 1)) (r := fkeys F) List.nodup_range fun x hx => all x (Nat.le_of_lt_succ (List.mem_range.mp hx))
  simp [fkeys] at this
  omega
theorem NInv.diff {eds : List Spot} {many : Nat} {F : Far} (h : NInv eds many F) {a b : Nat × List Int} (ha : a ∈ F) (hb : b ∈ F) (k : Nat) : a.2.getD k 0 - b.2.getD k 0 = 0 ∨ a.2.getD k 0 - b.2.getD k 0 = 1 ∨ a.2.getD k 0 - b.2.getD k 0 = -1 := by
  obtain ⟨c, hc, hs⟩ := h.sgn
  rcases hs a ha k with e | e <;> rcases hs b hb k with e2 | e2 <;> rw [e, e2] <;> rcases hc k with z | z <;> omega
/-- the edges that places in a row make -/
theorem linked_made {many : Nat} {pl : List Nat} (hp : pl.Perm (List.range (many + 1))) {eds : List Spot} (h : ∀ A : Nat → Prop, (∀ e ∈ eds, (A e.1 ↔ A e.2)) → ∀ i j, i ≤ many → j ≤ many → (A (pl.getD i 0) ↔ A (pl.getD j 0))) : Linked eds many := fun A hA x y hx hy => by
  have at_ : ∀ x, x ≤ many → ∃ i, i ≤ many ∧ pl.getD i 0 = x := fun x hx => by
    have hm : x ∈ pl := hp.mem_iff.mpr (List.mem_range.mpr (Nat.lt_succ_of_le hx))
    obtain ⟨i, hi⟩ := List.mem_iff_getElem?.mp hm
    have hl := (List.getElem?_eq_some_iff.mp hi).1
    rw [hp.length_eq, List.length_range] at hl
    exact ⟨i, Nat.le_of_lt_succ hl, by rw [List.getD_eq_getElem?_getD, hi]; rfl⟩
  obtain ⟨i, hi, rfl⟩ := at_ x hx
  obtain ⟨j, hj, rfl⟩ := at_ y hy
  exact h A hA i j hi hj
end K62
end
section
set_option autoImplicit false
set_option maxRecDepth 100000
namespace K62
/-! signs of four rows, all of them -/
def goods : List (Nat × Nat) := [(1919, 9345920147456), (2943, 176471687569408), (4991, 2252349640810496), (9087, 54043745355571200), (3455, 43980536422400), (5503, 2260595978018816), (17791, 864699924619468800), (10623, 54219117460201472), (18815, 288406298083467264), (12671, 20266198394478592), (20863, 290482176036708352), (24959, 918734324054892544), (1983, 9347463651328), (3007, 176473231073280), (5055, 2252351184314368), (9151, 54043746899075072), (3519, 43982079926272), (9663, 54051993236283392), (34239, 6917537825348919296), (6591, 2427723288944640), (35263, 16141076987971117056), (12735, 20266199937982464), (37311, 6919780829069582336), (41407, 16194944261639118848), (5951, 2261145666723840), (10047, 54052541381484544), (6975, 2428271434145792), (11071, 54219667148906496), (19775, 864735108924448768), (36159, 6917573008110395392), (38207, 6919789623551991808), (25919, 918743120080805888), (22847, 290658097830043648), (43327, 16195120181888950272), (28991, 308496574479081472), (45375, 6937795225968451584), (2015, 9346452824064), (3039, 176472220246016), (17375, 864691678814937088), (33759, 11529215596428271616), (3551, 43981069099008), (5599, 2260596510695424), (17887, 864699925152145408), (6623, 175922464432128), (35295, 11529390968532901888), (20959, 290482176569384960), (37343, 11531466846486142976), (49631, 3170534138272817152), (5983, 2261145729638400), (18271, 864700474371088384), (11103, 54219667211821056), (35679, 11529391517751844864), (37727, 11531467395705085952), (25439, 918734873806512128), (7519, 2295780345913344), (19807, 864735108987363328), (14687, 54219117456007168), (51551, 11817621344147742720), (29023, 308496574541996032), (53599, 11819697222100983808), (10143, 54052542987902976), (18335, 576470099762880512), (7071, 2428273040564224), (35743, 16141077537722736640), (21407, 578713103483543552), (41887, 16194944811390738432), (7583, 43982075731968), (36255, 6917573009716813824), (13727, 54051993232089088), (50591, 7493998577648148480), (45471, 6937795227574870016), (53663, 7496241581368811520), (14111, 38289942681493504), (22303, 578721897965953024), (26399, 918743669832425472), (15135, 38457068448915456), (39711, 11531643317498421248), (43807, 16195120731640569856), (29471, 614741898891894784), (45855, 11567496192656941056), (23839, 578756532582227968), (40223, 6919824807919886336), (52511, 3170578118133948416), (29983, 614750145229103104), (54559, 7496250375851220992), (47391, 11567671564761571328), (55583, 11819873143894319104), (5111, 2252350714544128), (9207, 54043746429304832), (17399, 288230927052570624), (33783, 13835058606183022592), (5623, 2260597051752448), (9719, 18023195747549184), (17911, 864699925693202432), (34295, 13835066852520230912), (12791, 20266199468212224), (20983, 290482177110441984), (41463, 13889101251955654656), (49655, 14699749184882343936), (6007, 2261145733824512), (34679, 13835067401202302976), (11127, 54219667216007168), (19319, 288406847839272960), (21367, 290482725792514048), (41847, 13889101800637726720), (11639, 18058379045896192), (19831, 864735108991549440), (13687, 20274994487492608), (50551, 14699757979901624320), (29047, 308496574546182144), (57719, 14753792379337048064), (10167, 54052542992089088), (18359, 576470099767066624), (7095, 2428273044750336), (35767, 16141077537726922752), (21431, 578713103487729664), (41911, 16194944811394924544), (7607, 43982079918080), (36279, 6917573009720999936), (13751, 54051993236275200), (50615, 7493998577652334592), (45495, 6937795227579056128), (53687, 7496241581372997632), (7991, 2401883155070976), (12087, 54193278869831680), (20279, 576610835644809216), (36663, 13835208138623549440), (22327, 578721897970139136), (42807, 13889110596663640064), (23351, 290658647585849344), (43831, 16195120731644755968), (23863, 578862085702680576), (44343, 13889250784396181504), (30007, 596735746723807232), (46391, 6937804022061465600), (54583, 7496250375855407104), (58679, 14753801175362961408), (61751, 7514255978271866880), (10199, 54043746425110528), (18391, 288230927048376320), (7127, 2393088198705152), (35799, 13835199343667183616), (21463, 290482726862061568), (41943, 13889101801707274240), (7639, 2401334535913472), (36311, 13835207590004391936), (13783, 20274995557040128), (50647, 14699757980971171840), (45527, 4631952217891405824), (53719, 4902168195533635584), (8023, 2401883217985536), (12119, 36178880423264256), (20311, 864841211859435520), (36695, 13835208138686464000), (14167, 38289942748594176), (51031, 14699758529653243904), (15191, 54219667211812864), (52055, 11817621893903548416), (29527, 326511522807283712), (45911, 11567496192724041728), (54103, 11819697771856789504), (58199, 14753792929088667648), (15703, 38430130481135616), (52567, 14699898717385785344), (61783, 11855726019119939584), (16151, 38430680169840640), (24343, 578862635454300160), (44823, 13889251334147801088), (53015, 14699899267074490368), (30487, 614750694984908800), (59159, 14753801725114580992), (47895, 11567672114517377024), (56087, 11819873693650124800), (62231, 9838113935746662400), (48407, 9261802167268802560), (56599, 9802234122553262080), (62743, 9838122182083870720)]
def bads : List (List Nat × List Nat × List Nat) := [([7, 11, 13], [1, 2, 4, 8, 7, 11, 13], []), ([7, 11, 14], [1, 2, 4, 8, 7, 11, 14], []), ([7, 13, 14], [1, 2, 4, 8, 7, 13, 14], []), ([11, 13, 14], [1, 2, 4, 8, 11, 13, 14], []), ([3, 5, 6, 7], [1, 2, 4, 3, 5, 6, 7], []), ([3, 5, 6, 15], [1, 2, 4, 8, 3, 5, 6], [15]), ([3, 5, 7, 14], [1, 2, 4, 8, 3, 5, 7], [14]), ([3, 5, 9, 14], [1, 2, 4, 8, 3, 5, 9], [14]), ([3, 5, 9, 15], [1, 2, 4, 8, 3, 5, 9], [15]), ([3, 5, 14, 15], [1, 2, 4, 3, 5, 14, 15], [8]), ([3, 6, 7, 13], [1, 2, 4, 8, 3, 6, 7], [13]), ([3, 6, 10, 13], [1, 2, 4, 8, 3, 6, 10], [13]), ([3, 6, 10, 15], [1, 2, 4, 8, 3, 6, 10], [15]), ([3, 6, 13, 15], [1, 2, 4, 3, 6, 13, 15], [8]), ([3, 9, 10, 11], [1, 2, 8, 3, 9, 10, 11], []), ([3, 9, 10, 15], [1, 2, 4, 8, 3, 9, 10], [15]), ([3, 9, 11, 14], [1, 2, 4, 8, 3, 9, 11], [14]), ([3, 9, 14, 15], [1, 2, 8, 3, 9, 14, 15], [4]), ([3, 10, 11, 13], [1, 2, 4, 8, 3, 10, 11], [13]), ([3, 10, 13, 15], [1, 2, 8, 3, 10, 13, 15], [4]), ([3, 13, 14, 15], [1, 2, 4, 3, 13, 14, 15], [8]), ([5, 6, 7, 11], [1, 2, 4, 8, 5, 6, 7], [11]), ([5, 6, 11, 12], [1, 2, 4, 8, 5, 6, 12], [11]), ([5, 6, 11, 15], [1, 2, 4, 5, 6, 11, 15], [8]), ([5, 6, 12, 15], [1, 2, 4, 8, 5, 6, 12], [15]), ([5, 9, 12, 13], [1, 4, 8, 5, 9, 12, 13], []), ([5, 9, 12, 15], [1, 2, 4, 8, 5, 9, 12], [15]), ([5, 9, 13, 14], [1, 2, 4, 8, 5, 9, 13], [14]), ([5, 9, 14, 15], [1, 4, 8, 5, 9, 14, 15], [2]), ([5, 11, 12, 13], [1, 2, 4, 8, 5, 12, 13], [11]), ([5, 11, 12, 15], [1, 2, 8, 5, 11, 12, 15], []), ([5, 11, 14, 15], [1, 2, 4, 5, 11, 14, 15], [8]), ([6, 10, 12, 14], [2, 4, 8, 6, 10, 12, 14], []), ([6, 10, 12, 15], [1, 2, 4, 8, 6, 10, 12], [15]), ([6, 10, 13, 14], [1, 2, 4, 8, 6, 10, 14], [13]), ([6, 10, 13, 15], [1, 4, 8, 6, 10, 13, 15], []), ([6, 11, 12, 14], [1, 2, 4, 8, 6, 12, 14], [11]), ([6, 11, 12, 15], [1, 2, 8, 6, 11, 12, 15], []), ([6, 11, 13, 15], [1, 2, 4, 6, 11, 13, 15], [8]), ([7, 9, 10, 11], [1, 2, 4, 8, 9, 10, 11], [7]), ([7, 9, 10, 12], [1, 2, 4, 8, 9, 10, 12], [7]), ([7, 9, 10, 15], [1, 2, 4, 7, 9, 10, 15], []), ([7, 9, 12, 13], [1, 2, 4, 8, 9, 12, 13], [7]), ([7, 9, 12, 15], [1, 2, 4, 7, 9, 12, 15], []), ([7, 9, 14, 15], [1, 2, 8, 7, 9, 14, 15], [4]), ([7, 10, 12, 14], [1, 2, 4, 8, 10, 12, 14], [7]), ([7, 10, 12, 15], [1, 2, 4, 7, 10, 12, 15], []), ([7, 10, 13, 15], [1, 2, 8, 7, 10, 13, 15], [4]), ([7, 11, 12, 15], [1, 4, 8, 7, 11, 12, 15], [2]), ([9, 10, 12, 15], [1, 2, 4, 8, 9, 10, 12], [15]), ([3, 5, 7, 10, 12], [1, 2, 4, 3, 5, 7, 10], [12]), ([3, 5, 10, 11, 12], [1, 2, 4, 3, 5, 10, 11], [12]), ([3, 5, 10, 12, 13], [1, 2, 4, 3, 5, 12, 13], [10]), ([3, 5, 10, 12, 14], [1, 2, 8, 3, 10, 12, 14], [5]), ([3, 6, 7, 9, 12], [1, 2, 4, 3, 6, 7, 9], [12]), ([3, 6, 9, 11, 12], [1, 2, 4, 3, 6, 9, 11], [12]), ([3, 6, 9, 12, 13], [1, 2, 8, 3, 9, 12, 13], [6]), ([3, 6, 9, 12, 14], [1, 2, 4, 3, 6, 12, 14], [9]), ([5, 6, 7, 9, 10], [1, 2, 4, 5, 6, 7, 9], [10]), ([5, 6, 9, 10, 11], [1, 2, 8, 5, 9, 10, 11], [6]), ([5, 6, 9, 10, 13], [1, 2, 4, 5, 6, 9, 13], [10]), ([5, 6, 9, 10, 14], [1, 2, 4, 5, 6, 10, 14], [9])]
def baseM : List Nat := [3, 5, 6, 7, 9, 10, 11, 12, 13, 14, 15]
def bmN (D : List Nat) : Nat := D.foldr (fun c acc => acc ||| 2 ^ c) 0
def subsB : List Nat → List (Nat × Nat)
  | [] => [(0, 0)]
  | a :: l => subsB l ++ (subsB l).map fun z => (z.1 + 1, z.2 ||| 2 ^ a)
def pc4 (x : Nat) : Nat := (0x4332322132212110 >>> (4 * x)) % 16
def fitsN (R e c w : Nat) : Bool := Nat.ble (pc4 (R &&& c)) (2 * pc4 ((R &&& c) &&& (e ^^^ w)) + 1) && Nat.ble (2 * pc4 ((R &&& c) &&& (e ^^^ w))) (pc4 (R &&& c) + 1)
theorem goods_ok : (goods.all fun z => (List.range 16).all fun R => (List.range 16).any fun e => (List.range 16).all fun c => !(z.1.testBit c) || fitsN R e c ((z.2 >>> (4 * c)) % 16)) = true := by decide +kernel
theorem covers : ((subsB baseM).all fun z => Nat.ble 6 z.1 || goods.any (fun g => Nat.beq (z.2 &&& g.1) z.2) || bads.any fun b => Nat.beq (bmN b.1 &&& z.2) (bmN b.1)) = true := by decide +kernel
theorem bads_ok : ∀ b ∈ bads, b.2.1.length = 7 ∧ (b.2.1 ++ b.2.2).Nodup ∧ (∀ v ∈ b.2.1 ++ b.2.2, v ∈ b.1 ∨ ((v = 1 ∨ v = 2 ∨ v = 4 ∨ v = 8) ∧ ∃ c ∈ b.1, v ≤ c)) ∧ GoodP b.2.2 b.2.1 := by decide +kernel
end K62
end
section
set_option autoImplicit false
set_option maxRecDepth 100000
namespace K62
theorem bit4 (f : Nat → Bool) : ∃ r, r < 16 ∧ ∀ i, i < 4 → r.testBit i = f i := by
  refine ⟨(f 0).toNat + 2 * (f 1).toNat + 4 * (f 2).toNat + 8 * (f 3).toNat, ?_, fun i hi => ?_⟩
  · generalize f 0 = a, f 1 = b, f 2 = c, f 3 = d
    revert a b c d; decide
  · rcases (by omega : i = 0 ∨ i = 1 ∨ i = 2 ∨ i = 3) with rfl | rfl | rfl | rfl
    all_goals
      generalize f 0 = a, f 1 = b, f 2 = c, f 3 = d
      revert a b c d; decide
def bitT (R e c w i : Nat) : Int := if (R.testBit i && c.testBit i) = true then (if (e.testBit i ^^ w.testBit i) = true then -1 else 1) else 0
def pcS (x : Nat) : Nat := (x.testBit 0).toNat + (x.testBit 1).toNat + (x.testBit 2).toNat + (x.testBit 3).toNat
theorem pc4_eq : ∀ x, x < 16 → pc4 x = pcS x := by decide +kernel
theorem one_bit (a b c : Bool) : (if (a && b) = true then (if c = true then (-1 : Int) else 1) else 0) = ((a && b).toNat : Int) - 2 * ((a && b && c).toNat : Int) := by
  revert a b c; decide
theorem bitT_eq (R e c w i : Nat) : bitT R e c w i = (((R &&& c).testBit i).toNat : Int) - 2 * ((((R &&& c) &&& (e ^^^ w)).testBit i).toNat : Int) := by
  unfold bitT
  rw [one_bit, Nat.testBit_and, Nat.testBit_and, Nat.testBit_and, Nat.testBit_xor]
theorem sum_bits (R e c w : Nat) : sumN 4 (bitT R e c w) = (pcS (R &&& c) : Int) - 2 * (pcS ((R &&& c) &&& (e ^^^ w)) : Int) := by
  show 0 + bitT R e c w 0 + bitT R e c w 1 + bitT R e c w 2 + bitT R e c w 3 = _
  rw [bitT_eq, bitT_eq, bitT_eq, bitT_eq]
  unfold pcS
  omega
theorem fits_sound {R e c w : Nat} (hR : R < 16) (h : fitsN R e c w = true) : -1 ≤ sumN 4 (bitT R e c w) ∧ sumN 4 (bitT R e c w) ≤ 1 := by
  have l1 : R &&& c < 16 := Nat.lt_of_le_of_lt Nat.and_le_left hR
  have l2 : (R &&& c) &&& (e ^^^ w) < 16 := Nat.lt_of_le_of_lt Nat.and_le_left l1
  unfold fitsN at h
  rw [pc4_eq _ l1, pc4_eq _ l2] at h
  obtain ⟨h1, h2⟩ := Bool.and_eq_true_iff.mp h
  have h1 := Nat.le_of_ble_eq_true h1
  have h2 := Nat.le_of_ble_eq_true h2
  rw [sum_bits]
  omega
theorem sum_pad {m : Nat} (f : Nat → Int) : ∀ k, (∀ i, m ≤ i → i < m + k → f i = 0) → sumN (m + k) f = sumN m f
  | 0, _ => rfl
  | k + 1, h => by
    show sumN (m + k) f + f (m + k) = _
    rw [sum_pad f k fun i h1 h2 => h i h1 (by omega), h (m + k) (by omega) (by omega)]; omega
theorem mask_bits (f : Nat → Bool) {m : Nat} (h : m ≤ 4) : ((List.range m).map fun i => (f i).toNat * 2 ^ i).sum < 2 ^ m ∧ ∀ i, i < 4 → (((List.range m).map fun i => (f i).toNat * 2 ^ i).sum).testBit i = (decide (i < m) && f i) := by
  have five : m = 0 ∨ m = 1 ∨ m = 2 ∨ m = 3 ∨ m = 4 := by omega
  constructor
  · rcases five with rfl | rfl | rfl | rfl | rfl
    · exact Nat.zero_lt_one
    · show (f 0).toNat * 2 ^ 0 + 0 < 2 ^ 1
      generalize f 0 = a
      revert a; decide
    · show (f 0).toNat * 2 ^ 0 + ((f 1).toNat * 2 ^ 1 + 0) < 2 ^ 2
      generalize f 0 = a, f 1 = b
      revert a b; decide
    · show (f 0).toNat * 2 ^ 0 + ((f 1).toNat * 2 ^ 1 + ((f 2).toNat * 2 ^ 2 + 0)) < 2 ^ 3
      generalize f 0 = a, f 1 = b, f 2 = c
      revert a b c; decide
    · show (f 0).toNat * 2 ^ 0 + ((f 1).toNat * 2 ^ 1 + ((f 2).toNat * 2 ^ 2 + ((f 3).toNat * 2 ^ 3 + 0))) < 2 ^ 4
      generalize f 0 = a, f 1 = b, f 2 = c, f 3 = d
      revert a b c d; decide
  · intro i hi
    rcases five with rfl | rfl | rfl | rfl | rfl
    · show (0 : Nat).testBit i = _
      rw [Nat.zero_testBit]; rfl
    · show ((f 0).toNat * 2 ^ 0 + 0).testBit i = _
      rcases (by omega : i = 0 ∨ i = 1 ∨ i = 2 ∨ i = 3) with rfl | rfl | rfl | rfl
      all_goals
        generalize f 0 = a, f 1 = b, f 2 = c, f 3 = d
        revert a b c d; decide
    · show ((f 0).toNat * 2 ^ 0 + ((f 1).toNat * 2 ^ 1 + 0)).testBit i = _
      rcases (by omega : i = 0 ∨ i = 1 ∨ i = 2 ∨ i = 3) with rfl | rfl | rfl | rfl
      all_goals
        generalize f 0 = a, f 1 = b, f 2 = c, f 3 = d
        revert a b c d; decide
    · show ((f 0).toNat * 2 ^ 0 + ((f 1).toNat * 2 ^ 1 + ((f 2).toNat * 2 ^ 2 + 0))).testBit i = _
      rcases (by omega : i = 0 ∨ i = 1 ∨ i = 2 ∨ i = 3) with rfl | rfl | rfl | rfl
      all_goals
        generalize f 0 = a, f 1 = b, f 2 = c, f 3 = d
        revert a b c d; decide
    · show ((f 0).toNat * 2 ^ 0 + ((f 1).toNat * 2 ^ 1 + ((f 2).toNat * 2 ^ 2 + ((f 3).toNat * 2 ^ 3 + 0)))).testBit i = _
      rcases (by omega : i = 0 ∨ i = 1 ∨ i = 2 ∨ i = 3) with rfl | rfl | rfl | rfl
      all_goals
        generalize f 0 = a, f 1 = b, f 2 = c, f 3 = d
        revert a b c d; decide
theorem mask_of {F : Tab} {m j : Nat} (m4 : m ≤ 4) (h01 : ∀ i j, ent F i j = 0 ∨ ent F i j = 1) : maskN F m j < 2 ^ m ∧ ∀ i, i < 4 → (maskN F m j).testBit i = (decide (i < m) && decide (ent F i j = 1)) := by
  have e : maskN F m j = ((List.range m).map fun i => (decide (ent F i j = 1)).toNat * 2 ^ i).sum := by
    unfold maskN
    congr 2
    funext i
    rcases h01 i j with h | h
    · rw [h]; rfl
    · rw [h]; rfl
  rw [e]
  exact mask_bits (fun i => decide (ent F i j = 1)) m4
theorem bm_bit (k : Nat) : ∀ D : List Nat, (bmN D).testBit k = decide (k ∈ D)
  | [] => by show (0 : Nat).testBit k = _; rw [Nat.zero_testBit]; simp
  | a :: D => by
    show (bmN D ||| 2 ^ a).testBit k = _
    rw [Nat.testBit_or, bm_bit k D, Nat.testBit_two_pow]
    by_cases h : k = a
    · subst h; simp
    · have h' : ¬ a = k := fun e => h e.symm
      simp [h, h']
theorem sub_mem (p : Nat → Bool) : ∀ B : List Nat, ((B.filter p).length, bmN (B.filter p)) ∈ subsB B
  | [] => List.mem_singleton.mpr rfl
  | a :: B => by
    have ih := sub_mem p B
    show _ ∈ subsB B ++ (subsB B).map fun z => (z.1 + 1, z.2 ||| 2 ^ a)
    by_cases h : p a = true
    · rw [List.filter_cons_of_pos h]
      exact List.mem_append_right _ (List.mem_map.mpr ⟨_, ih, rfl⟩)
    · rw [List.filter_cons_of_neg h]
      exact List.mem_append_left _ ih
theorem goods_unit : ∀ g ∈ goods, ∀ c ∈ [0, 1, 2, 4, 8], g.1.testBit c = true := by decide +kernel
theorem all_masks : ∀ c, c < 16 → c ∈ baseM ∨ c ∈ [0, 1, 2, 4, 8] := by decide
theorem sign_or_bad {F : Tab} {m n : Nat} (m4 : m ≤ 4) (n5 : n ≤ 5) (h01 : ∀ i j, ent F i j = 0 ∨ ent F i j = 1) : (∃ U, Sgn (ent F) U ∧ GH m n U) ∨ ∃ b ∈ bads, ∀ c ∈ b.1, ∃ j, j < n ∧ maskN F m j = c := by
  have mb := fun j => mask_of (F := F) (m := m) (j := j) m4 h01
  have m16 : ∀ j, maskN F m j < 16 := fun j => Nat.lt_of_lt_of_le (mb j).1 (Nat.pow_le_pow_right (by decide) m4)
  have hsub := sub_mem (fun c => decide (c ∈ (List.range n).map (maskN F m))) baseM
  have hlen := nodup_le (l := baseM.filter fun c => decide (c ∈ (List.range n).map (maskN F m))) (r := (List.range n).map (maskN F m)) (List.Pairwise.filter _ (show baseM.Nodup by decide)) fun x hx => of_decide_eq_true (List.mem_filter.mp hx).2
  rw [List.length_map, List.length_range] at hlen
  have inD : ∀ c, c ∈ baseM.filter (fun c => decide (c ∈ (List.range n).map (maskN F m))) ↔ c ∈ baseM ∧ ∃ j, j < n ∧ maskN F m j = c := fun c => by
    rw [List.mem_filter]
    refine and_congr_right fun _ => ?_
    rw [decide_eq_true_iff, List.mem_map]
    exact ⟨fun ⟨j, hj, e⟩ => ⟨j, List.mem_range.mp hj, e⟩, fun ⟨j, hj, e⟩ => ⟨j, List.mem_range.mpr hj, e⟩⟩
  generalize baseM.filter (fun c => decide (c ∈ (List.range n).map (maskN F m))) = D at hsub hlen inD
  have cv := List.all_eq_true.mp covers _ hsub
  rw [Bool.or_eq_true, Bool.or_eq_true] at cv
  rcases cv with (cv | cv) | cv
  · have := Nat.le_of_ble_eq_true cv
    have this : 6 ≤ D.length := this
    omega
  · obtain ⟨g, hg, hb⟩ := List.any_eq_true.mp cv
    have hb : bmN D &&& g.1 = bmN D := Nat.eq_of_beq_eq_true hb
    have ing : ∀ j, j < n → g.1.testBit (maskN F m j) = true := fun j hj => by
      rcases all_masks _ (m16 j) with h | h
      · have hd := (inD _).mpr ⟨h, j, hj, rfl⟩
        have e := bm_bit (maskN F m j) D
        rw [decide_eq_true hd, ← hb, Nat.testBit_and] at e
        exact (Bool.and_eq_true_iff.mp e).2
      · exact goods_unit g hg _ h
    have ok := List.all_eq_true.mp goods_ok g hg
    refine .inl ⟨fun i j => if ent F i j = 1 then (if ((g.2 >>> (4 * maskN F m j)) % 16).testBit i = true then -1 else 1) else 0, fun a b => ⟨fun h => ?_, fun h => if_neg h⟩, fun R => ?_⟩
    · show (if ent F a b = 1 then _ else _) = _ ∨ (if ent F a b = 1 then _ else _) = _
      rw [if_pos h]
      split
      · exact .inr rfl
      · exact .inl rfl
    · obtain ⟨r, hr, hbits⟩ := bit4 fun i => decide (i < m) && R i
      have ok := List.all_eq_true.mp ok r (List.mem_range.mpr hr)
      obtain ⟨e, _, ok⟩ := List.any_eq_true.mp ok
      refine ⟨fun i => if e.testBit i = true then -1 else 1, fun i => ?_, fun j hj => ?_⟩
      · show (if e.testBit i = true then _ else _) = _ ∨ (if e.testBit i = true then _ else _) = _
        split
        · exact .inr rfl
        · exact .inl rfl
      · have ok := List.all_eq_true.mp ok (maskN F m j) (List.mem_range.mpr (m16 j))
        rw [ing j hj] at ok
        have ok := fits_sound hr (show fitsN r e (maskN F m j) ((g.2 >>> (4 * maskN F m j)) % 16) = true from ok)
        have es : sumN m (fun i => if R i = true then (if e.testBit i = true then (-1 : Int) else 1) * (if ent F i j = 1 then (if ((g.2 >>> (4 * maskN F m j)) % 16).testBit i = true then -1 else 1) else 0) else 0) = sumN 4 (bitT r e (maskN F m j) ((g.2 >>> (4 * maskN F m j)) % 16)) := by
          generalize (g.2 >>> (4 * maskN F m j)) % 16 = ww
          have pad : sumN 4 (bitT r e (maskN F m j) ww) = sumN m (bitT r e (maskN F m j) ww) := by
            obtain ⟨k, hk⟩ : ∃ k, m + k = 4 := ⟨4 - m, by omega⟩
            have := sum_pad (m := m) (bitT r e (maskN F m j) ww) k fun i h1 h2 => by
              unfold bitT
              rw [hbits i (by omega), decide_eq_false (by omega)]
              simp
            rw [hk] at this
            exact this
          rw [pad]
          refine sumN_congr fun i hi => ?_
          unfold bitT
          rw [hbits i (by omega), (mb j).2 i (by omega), decide_eq_true hi]
          generalize R i = x, e.testBit i = y, ww.testBit i = z
          by_cases he : ent F i j = 1
          · rw [if_pos he, decide_eq_true he]
            revert x y z; decide
          · rw [if_neg he, decide_eq_false he]
            revert x y z; decide
        rw [← es] at ok
        exact ok
  · obtain ⟨b, hb, he⟩ := List.any_eq_true.mp cv
    have he : bmN b.1 &&& bmN D = bmN b.1 := Nat.eq_of_beq_eq_true he
    refine .inr ⟨b, hb, fun c hc => ?_⟩
    have e := bm_bit c b.1
    rw [decide_eq_true hc, ← he, Nat.testBit_and, bm_bit c D] at e
    exact ((inD c).mp (of_decide_eq_true (Bool.and_eq_true_iff.mp e).2)).2
end K62
end
section
set_option autoImplicit false
set_option maxRecDepth 100000
set_option linter.all false
namespace K62
theorem fold_perm {α β : Type} (g : α → β → β) (comm : ∀ a b z, g a (g b z) = g b (g a z)) {l l' : List α} (p : l.Perm l') : ∀ {acc acc' : List β}, acc.Perm acc' → (l.foldl (fun acc x => acc ++ acc.map (g x)) acc).Perm (l'.foldl (fun acc x => acc ++ acc.map (g x)) acc') := by
  induction p with
  | nil => exact fun h => h
  | cons x _ ih => exact fun h => ih (h.append (h.map _))
  | swap x y l =>
    intro acc acc' h
    have go : ∀ (l : List α) {acc acc' : List β}, acc.Perm acc' → (l.foldl (fun acc x => acc ++ acc.map (g x)) acc).Perm (l.foldl (fun acc x => acc ++ acc.map (g x)) acc') := by
      intro l
      induction l with
      | nil => exact fun h => h
      | cons x l ih => exact fun h => ih (h.append (h.map _))
    refine go l ?_
    have e : (acc' ++ acc'.map (g y)).map (g x) = acc'.map (g x) ++ (acc'.map (g x)).map (g y) := by
      rw [List.map_append, List.map_map, List.map_map]
      congr 2
      funext z
      exact comm x y z
    refine (((h.append (h.map (g y))).append ((h.append (h.map (g y))).map (g x)))).trans ?_
    show (acc' ++ acc'.map (g y) ++ (acc' ++ acc'.map (g y)).map (g x)).Perm (acc' ++ acc'.map (g x) ++ (acc' ++ acc'.map (g x)).map (g y))
    rw [e, List.map_append, List.append_assoc, List.append_assoc]
    refine List.Perm.append_left _ ?_
    rw [← List.append_assoc, ← List.append_assoc]
    exact List.Perm.append_right _ List.perm_append_comm
  | trans _ _ ih1 ih2 => exact fun h => (ih1 h).trans (ih2 (.refl _))
theorem fold_head {α β : Type} (g : α → β → β) (a : β) : ∀ (l : List α) (acc : List β), ∃ r, l.foldl (fun acc x => acc ++ acc.map (g x)) (a :: acc) = a :: r
  | [], acc => ⟨acc, rfl⟩
  | x :: l, acc => fold_head g a l _
theorem xsums_perm {R R' : List Nat} (h : R.Perm R') : (xsumsN R).Perm (xsumsN R') :=
  fold_perm (fun x y => y ^^^ x) (fun a b z => by rw [Nat.xor_assoc, Nat.xor_assoc, Nat.xor_comm b a]) h (.refl _)
theorem kfold_perm {K K' : List Nat} (h : K.Perm K') : (kfoldN K).Perm (kfoldN K') :=
  fold_perm (fun (v : Nat) (z : Nat × Nat) => (z.1 ^^^ v, z.2 + 1)) (fun a b z => by show (z.1 ^^^ b ^^^ a, _) = (z.1 ^^^ a ^^^ b, _); rw [Nat.xor_assoc, Nat.xor_assoc, Nat.xor_comm b a]) h (.refl _)
theorem ksums_perm {K K' : List Nat} (h : K.Perm K') : (ksumsN K).Perm (ksumsN K') := by
  obtain ⟨r, e⟩ := fold_head (fun (v : Nat) (z : Nat × Nat) => (z.1 ^^^ v, z.2 + 1)) (0, 0) K []
  obtain ⟨r', e'⟩ := fold_head (fun (v : Nat) (z : Nat × Nat) => (z.1 ^^^ v, z.2 + 1)) (0, 0) K' []
  have p := kfold_perm h
  have e1 : kfoldN K = (0, 0) :: r := e
  have e2 : kfoldN K' = (0, 0) :: r' := e'
  unfold ksumsN
  rw [e1, e2] at p
  rw [e1, e2]
  exact p.cons_inv
/-- what a count by sizes holds -/
structure CountOk (d : List (Nat × Nat)) (L : List Nat) : Prop where
  keys : (d.map (·.1)).Nodup
  says : ∀ k c, (k, c) ∈ d ↔ c = L.count k ∧ 0 < c
theorem CountOk.get {d : List (Nat × Nat)} {L : List Nat} (h : CountOk d L) (k : Nat) : getN d k = L.count k := by
  unfold getN
  cases q : d.find? fun z => decide (z.1 = k) with
  | none =>
    show 0 = _
    rcases Nat.eq_zero_or_pos (L.count k) with z | z
    · exact z.symm
    · have := List.find?_eq_none.mp q _ ((h.says k _).mpr ⟨rfl, z⟩)
      simp at this
  | some z =>
    have h1 := List.find?_some q
    have h1 : z.1 = k := of_decide_eq_true h1
    have h2 := List.mem_of_find?_eq_some q
    have h3 : (k, z.2) ∈ d := by rw [← h1]; exact h2
    exact ((h.says k z.2).mp h3).1
theorem CountOk.bump {d : List (Nat × Nat)} {L : List Nat} (h : CountOk d L) (k : Nat) : CountOk (bump d k) (L ++ [k]) := by
  have hg := h.get k
  have cnt : ∀ x, (L ++ [k]).count x = L.count x + if x = k then 1 else 0 := fun x => by
    rw [List.count_append, List.count_singleton]
    by_cases e : x = k
    · subst e; simp
    · have e' : ¬ k = x := fun z => e z.symm
      simp [e, e']
  unfold K62.bump
  by_cases q : (d.any fun z => decide (z.1 = k)) = true
  · rw [if_pos q]
    obtain ⟨z0, hz0, e0⟩ := List.any_eq_true.mp q
    have e0 : z0.1 = k := of_decide_eq_true e0
    refine ⟨?_, fun x c => ?_⟩
    · rw [List.map_map]
      have : (Prod.fst ∘ fun z : Nat × Nat => if z.1 = k then (z.1, getN d k + 1) else z) = Prod.fst := by
        funext z
        show (if z.1 = k then (z.1, getN d k + 1) else z).1 = z.1
        split <;> rfl
      rw [this]; exact h.keys
    · rw [cnt, List.mem_map]
      constructor
      · rintro ⟨z, hz, e⟩
        by_cases hk : z.1 = k
        · rw [if_pos hk] at e
          cases e
          rw [if_pos hk, hg, hk]; omega
        · rw [if_neg hk] at e
          subst e
          rw [if_neg hk]
          have := (h.says _ _).mp hz
          omega
      · rintro ⟨e, hc⟩
        by_cases hk : x = k
        · subst hk
          rw [if_pos rfl] at e
          exact ⟨z0, hz0, by rw [if_pos e0, hg, e0, e]⟩
        · rw [if_neg hk] at e
          exact ⟨(x, c), (h.says x c).mpr ⟨by omega, hc⟩, if_neg hk⟩
  · rw [if_neg q]
    have no : ∀ z ∈ d, z.1 ≠ k := fun z hz e => q (List.any_eq_true.mpr ⟨z, hz, decide_eq_true e⟩)
    have zero : L.count k = 0 := by
      rcases Nat.eq_zero_or_pos (L.count k) with z | z
      · exact z
      · exact absurd rfl (no _ ((h.says k _).mpr ⟨rfl, z⟩))
    refine ⟨?_, fun x c => ?_⟩
    · rw [List.map_append]
      refine List.nodup_append.mpr ⟨h.keys, by simp, fun a ha b hb e => ?_⟩
      obtain ⟨z, hz, rfl⟩ := List.mem_map.mp ha
      obtain rfl : b = k := by simpa using hb
      exact no z hz e
    · rw [cnt, List.mem_append, List.mem_singleton, hg]
      constructor
      · rintro (hz | hz)
        · have := (h.says _ _).mp hz
          have hk := no _ hz
          rw [if_neg hk]
          omega
        · cases hz
          rw [if_pos rfl]; omega
      · rintro ⟨e, hc⟩
        by_cases hk : x = k
        · subst hk
          rw [if_pos rfl] at e
          exact .inr (by rw [e])
        · rw [if_neg hk] at e
          exact .inl ((h.says x c).mpr ⟨by omega, hc⟩)
theorem sizes_count (reached : List Nat) (sums : List (Nat × Nat)) : CountOk (sizesN reached sums) ((sums.filter fun z => decide (z.1 ∈ reached)).map (·.2)) := by
  have go : ∀ (sums : List (Nat × Nat)) (d : List (Nat × Nat)) (L : List Nat), CountOk d L → CountOk (sums.foldl (fun d z => if z.1 ∈ reached then bump d z.2 else d) d) (L ++ (sums.filter fun z => decide (z.1 ∈ reached)).map (·.2)) := by
    intro sums
    induction sums with
    | nil => intro d L h; rw [List.filter_nil, List.map_nil, List.append_nil]; exact h
    | cons z sums ih =>
      intro d L h
      rw [List.foldl_cons]
      by_cases q : z.1 ∈ reached
      · rw [if_pos q, List.filter_cons_of_pos (p := fun z : Nat × Nat => decide (z.1 ∈ reached)) (decide_eq_true q), List.map_cons]
        have := ih _ _ (h.bump z.2)
        rw [List.append_assoc] at this
        exact this
      · rw [if_neg q, List.filter_cons_of_neg (p := fun z : Nat × Nat => decide (z.1 ∈ reached)) (by simpa using q)]
        exact ih _ _ h
  have := go sums [] [] ⟨List.nodup_nil, fun k c => ⟨fun h => (by cases h), fun ⟨h1, h2⟩ => (by rw [List.count_nil] at h1; omega)⟩⟩
  exact this
theorem CountOk.tells {d d' : List (Nat × Nat)} {L L' : List Nat} (h : CountOk d L) (h' : CountOk d' L') (p : L.Perm L') {ps : List (Nat × Nat)} (t : Tells d ps) : Tells d' ps := by
  have mem : ∀ z, z ∈ d ↔ z ∈ d' := fun z => by
    rw [show z = (z.1, z.2) from rfl, h.says, h'.says, p.count_eq]
  have nd : ∀ {d : List (Nat × Nat)} {L : List Nat}, CountOk d L → d.Nodup := fun h => List.Pairwise.imp (fun hne e => hne (by rw [e])) (List.pairwise_map.mp h.keys)
  have pp := (List.perm_ext_iff_of_nodup (nd h) (nd h')).mpr mem
  exact ⟨by rw [← pp.length_eq]; exact t.1, fun z hz => t.2 z ((mem z).mpr hz)⟩
theorem good_perm {R R' K K' : List Nat} (hR : R.Perm R') (hK : K.Perm K') (g : GoodP R K) : GoodP R' K' := by
  have p : (((ksumsN K).filter fun z => decide (z.1 ∈ xsumsN R)).map (·.2)).Perm (((ksumsN K').filter fun z => decide (z.1 ∈ xsumsN R')).map (·.2)) := by
    have e : (fun z : Nat × Nat => decide (z.1 ∈ xsumsN R)) = fun z => decide (z.1 ∈ xsumsN R') := by
      funext z
      exact decide_eq_decide.mpr (xsums_perm hR).mem_iff
    rw [e]
    exact ((ksums_perm hK).filter _).map _
  rcases g with g | g
  · exact .inl ((sizes_count _ _).tells (sizes_count _ _) p g)
  · exact .inr ((sizes_count _ _).tells (sizes_count _ _) p g)
end K62
end
section
set_option autoImplicit false
set_option maxRecDepth 100000
set_option linter.all false
namespace K62
theorem range_getD (l : List Nat) : (List.range l.length).map (fun k => l.getD k 0) = l := by
  refine List.ext_getElem (by rw [List.length_map, List.length_range]) fun i h1 h2 => ?_
  rw [List.getElem_map, List.getElem_range, List.getD_eq_getElem?_getD, List.getElem?_eq_getElem h2]; rfl
theorem rise_filter (N : Nat) (p : Nat → Bool) : Rise N ((List.range N).filter p) :=
  ⟨List.Pairwise.filter _ List.pairwise_lt_range, fun x hx => List.mem_range.mp (List.mem_filter.mp hx).1⟩
theorem nodup_of_lt {l : List Nat} (h : l.Pairwise (· < ·)) : l.Nodup := h.imp fun q => Nat.ne_of_lt q
theorem piece_lift {pts K R : List Nat} (hn : (K ++ R).Nodup) (hin : ∀ v ∈ K ++ R, v ∈ pts) (hK : K.length = 7) (g : GoodP R K) : HasPiece pts := by
  obtain ⟨nK, nR, nKR⟩ := List.nodup_append.mp hn
  have at_ : ∀ v ∈ K ++ R, pts.idxOf v < pts.length ∧ pts.getD (pts.idxOf v) 0 = v := fun v hv => by
    have h := List.idxOf_lt_length_of_mem (hin v hv)
    refine ⟨h, ?_⟩
    rw [List.getD_eq_getElem?_getD, List.getElem?_eq_getElem h, List.getElem_idxOf h]; rfl
  have inj : ∀ u ∈ K ++ R, ∀ v ∈ K ++ R, pts.idxOf u = pts.idxOf v → u = v := fun u hu v hv e => by
    rw [← (at_ u hu).2, ← (at_ v hv).2, e]
  have mapN : ∀ l : List Nat, l.Nodup → (∀ v ∈ l, v ∈ K ++ R) → (l.map pts.idxOf).Nodup := fun l hl hs => by
    refine List.pairwise_map.mpr (hl.imp_of_mem fun ha hb hne e => hne (inj _ (hs _ ha) _ (hs _ hb) e))
  have back : ∀ l : List Nat, (∀ v ∈ l, v ∈ K ++ R) → (l.map pts.idxOf).map (fun k => pts.getD k 0) = l := fun l hs => by
    rw [List.map_map]
    have : l.map ((fun k => pts.getD k 0) ∘ pts.idxOf) = l.map id := List.map_congr_left fun v hv => (at_ v (hs v hv)).2
    rw [this, List.map_id]
  have sK : ∀ v ∈ K, v ∈ K ++ R := fun v h => List.mem_append_left _ h
  have sR : ∀ v ∈ R, v ∈ K ++ R := fun v h => List.mem_append_right _ h
  have pK : ((List.range pts.length).filter fun k => decide (k ∈ K.map pts.idxOf)).Perm (K.map pts.idxOf) := by
    refine (List.perm_ext_iff_of_nodup (nodup_of_lt (rise_filter _ _).lt) (mapN K nK sK)).mpr fun x => ?_
    rw [List.mem_filter, decide_eq_true_iff, List.mem_range]
    refine ⟨fun h => h.2, fun h => ⟨?_, h⟩⟩
    obtain ⟨v, hv, rfl⟩ := List.mem_map.mp h
    exact (at_ v (sK v hv)).1
  generalize hkept : ((List.range pts.length).filter fun k => decide (k ∈ K.map pts.idxOf)) = kept at pK
  have hrest : ∀ x, x ∈ restN pts.length kept ↔ x < pts.length ∧ x ∉ kept := fun x => by
    unfold restN
    rw [List.mem_filter, decide_eq_true_iff, List.mem_range]
  have nrest : (restN pts.length kept).Nodup := nodup_of_lt (rise_filter _ _).lt
  have pR : ((restN pts.length kept).filter fun k => decide (k ∈ R.map pts.idxOf)).Perm (R.map pts.idxOf) := by
    refine (List.perm_ext_iff_of_nodup (List.Pairwise.filter _ nrest) (mapN R nR sR)).mpr fun x => ?_
    rw [List.mem_filter, decide_eq_true_iff, hrest]
    refine ⟨fun h => h.2, fun h => ⟨?_, h⟩⟩
    obtain ⟨v, hv, rfl⟩ := List.mem_map.mp h
    refine ⟨(at_ v (sR v hv)).1, fun hk => ?_⟩
    obtain ⟨u, hu, e⟩ := List.mem_map.mp (pK.mem_iff.mp hk)
    have := inj u (sK u hu) v (sR v hv) e
    exact nKR u hu v hv this
  refine ⟨kept, (mem_picksN 7 kept).mpr ⟨?_, by rw [← hkept]; exact rise_filter _ _⟩, (restN pts.length kept).filter fun k => decide (k ∈ R.map pts.idxOf), ?_, ?_⟩
  · rw [pK.length_eq, List.length_map, hK]
  · unfold takensN
    generalize restN pts.length kept = rest
    refine List.mem_flatMap.mpr ⟨((List.range rest.length).filter fun k => decide (rest.getD k 0 ∈ R.map pts.idxOf)).length, List.mem_range.mpr ?_, List.mem_map.mpr ⟨(List.range rest.length).filter fun k => decide (rest.getD k 0 ∈ R.map pts.idxOf), (mem_picksN _ _).mpr ⟨rfl, rise_filter _ _⟩, ?_⟩⟩
    · have := List.length_filter_le (fun k => decide (rest.getD k 0 ∈ R.map pts.idxOf)) (List.range rest.length)
      rw [List.length_range] at this
      omega
    · have e := List.filter_map (f := fun k => rest.getD k 0) (p := fun k => decide (k ∈ R.map pts.idxOf)) (l := List.range rest.length)
      rw [range_getD] at e
      rw [e]; rfl
  · refine good_perm (R := R) (K := K) ?_ ?_ g
    · have := pR.map fun k => pts.getD k 0
      rw [back R sR] at this
      exact this.symm
    · have := pK.map fun k => pts.getD k 0
      rw [back K sK] at this
      exact this.symm
theorem unit_of : ∀ v, (v = 1 ∨ v = 2 ∨ v = 4 ∨ v = 8) → ∃ i, v = 2 ^ i := fun v h => by
  rcases h with rfl | rfl | rfl | rfl
  · exact ⟨0, rfl⟩
  · exact ⟨1, rfl⟩
  · exact ⟨2, rfl⟩
  · exact ⟨3, rfl⟩
theorem has_of_bad {F : Tab} {m n : Nat} (m4 : m ≤ 4) (h01 : ∀ i j, ent F i j = 0 ∨ ent F i j = 1) {b : List Nat × List Nat × List Nat} (hb : b ∈ bads) (hc : ∀ c ∈ b.1, ∃ j, j < n ∧ maskN F m j = c) : HasPiece (ptsN F m n) := by
  obtain ⟨h7, hn, hv, hg⟩ := bads_ok b hb
  refine piece_lift hn (fun v h => ?_) h7 hg
  unfold ptsN
  rcases hv v h with h | ⟨h, c, hcb, hle⟩
  · obtain ⟨j, hj, e⟩ := hc v h
    exact List.mem_append_right _ (List.mem_map.mpr ⟨j, List.mem_range.mpr hj, e⟩)
  · obtain ⟨i, rfl⟩ := unit_of v h
    obtain ⟨j, hj, e⟩ := hc c hcb
    have lt := (mask_of (F := F) (m := m) (j := j) m4 h01).1
    have hi : i < m := (Nat.pow_lt_pow_iff_right (by decide : 1 < 2)).mp (Nat.lt_of_le_of_lt hle (by rw [← e]; exact lt))
    exact List.mem_append_left _ (List.mem_map.mpr ⟨i, List.mem_range.mpr hi, rfl⟩)
theorem signed_or_piece {F : Tab} {m n : Nat} (m4 : m ≤ 4) (n5 : n ≤ 5) (h01 : ∀ i j, ent F i j = 0 ∨ ent F i j = 1) : (∃ U, Sgn (ent F) U ∧ GH m n U) ∨ HasPiece (ptsN F m n) := by
  rcases sign_or_bad (n := n) m4 n5 h01 with h | ⟨b, hb, hc⟩
  · exact .inl h
  · exact .inr (has_of_bad m4 h01 hb hc)
end K62
end
section
set_option Elab.async false
set_option linter.all false
set_option maxRecDepth 100000
set_option maxHeartbeats 4000000
namespace K62
open PySem L2
/-! ### data as it is tracked -/
mutual
inductive Da (G : Hp) : V → PyData → Prop
  | non : Da G .non .none
  | bl (b : Bool) : Da G (.bl b) (.bool b)
  | int (i : Int) : Da G (.int i) (.int i)
  | str (x : Str) : Da G (.str x) (.str x)
  | lst {a : Addr} {xs : List V} {ds : List PyData} : G a = some (.lst xs) → DaAll G xs ds → Da G (.ref a) (.list ds)
  | tup {a : Addr} {xs : List V} {ds : List PyData} : G a = some (.tup xs) → DaAll G xs ds → Da G (.ref a) (.tuple ds)
inductive DaAll (G : Hp) : List V → List PyData → Prop
  | nil : DaAll G [] []
  | cons {v : V} {vs : List V} {d : PyData} {ds : List PyData} : Da G v d → DaAll G vs ds → DaAll G (v :: vs) (d :: ds)
end
mutual
theorem Da.mono {G G' : Hp} (e : Same G G') : ∀ {d : PyData} {v : V}, Da G v d → Da G' v d
  | .none, _, h => by cases h; exact .non
  | .bool b, _, h => by cases h; exact .bl b
  | .int i, _, h => by cases h; exact .int i
  | .str x, _, h => by cases h; exact .str x
  | .list ds, _, h => by
    cases h with
    | lst hs ha => exact .lst (e _ _ hs) (DaAll.mono e ha)
  | .tuple ds, _, h => by
    cases h with
    | tup hs ha => exact .tup (e _ _ hs) (DaAll.mono e ha)
  | .dict _, _, h => by cases h
theorem DaAll.mono {G G' : Hp} (e : Same G G') : ∀ {ds : List PyData} {vs : List V}, DaAll G vs ds → DaAll G' vs ds
  | [], _, h => by cases h; exact .nil
  | d :: ds, _, h => by
    cases h with
    | cons h1 h2 => exact .cons (Da.mono e h1) (DaAll.mono e h2)
end
mutual
theorem Da.dp {K : PySem.W.Frag} {G : Hp} : ∀ {d : PyData} {v : V}, Da G v d → Dp K G v d
  | .none, _, h => by cases h; exact .non
  | .bool b, _, h => by cases h; exact .bl b
  | .int i, _, h => by cases h; exact .int i
  | .str x, _, h => by cases h; exact .str x
  | .list ds, _, h => by
    cases h with
    | lst hs ha => exact .lst (SqL.of hs) (DaAll.dp ha)
  | .tuple ds, _, h => by
    cases h with
    | tup hs ha => exact .tup (SqT.of hs) (DaAll.dp ha)
  | .dict _, _, h => by cases h
theorem DaAll.dp {K : PySem.W.Frag} {G : Hp} : ∀ {ds : List PyData} {vs : List V}, DaAll G vs ds → DpAll K G vs ds
  | [], _, h => by cases h; exact .nil
  | d :: ds, _, h => by
    cases h with
    | cons h1 h2 => exact .cons (Da.dp h1) (DaAll.dp h2)
end
theorem DaAll.length {G : Hp} : ∀ {vs : List V} {ds : List PyData}, DaAll G vs ds → vs.length = ds.length
  | _, _, .nil => rfl
  | _, _, .cons _ t => congrArg (· + 1) (DaAll.length t)
theorem DaAll.append {G : Hp} : ∀ {vs ws : List V} {ds es : List PyData}, DaAll G vs ds → DaAll G ws es → DaAll G (vs ++ ws) (ds ++ es)
  | _, _, _, _, .nil, s => s
  | _, _, _, _, .cons r t, s => .cons r (DaAll.append t s)
theorem DaAll.ints {G : Hp} : ∀ ns : List Int, DaAll G (ns.map V.int) (ns.map PyData.int)
  | [] => .nil
  | n :: ns => .cons (.int n) (DaAll.ints ns)
theorem DaAll.ints_inv {G : Hp} : ∀ {ns : List Int} {vs : List V}, DaAll G vs (ns.map PyData.int) → vs = ns.map V.int
  | [], _, h => by cases h; rfl
  | n :: ns, _, h => by
    cases h with
    | cons h1 h2 =>
      cases h1
      rw [DaAll.ints_inv h2]; rfl
theorem DaAll.bools_inv {G : Hp} : ∀ {ns : List Bool} {vs : List V}, DaAll G vs (ns.map PyData.bool) → vs = ns.map V.bl
  | [], _, h => by cases h; rfl
  | n :: ns, _, h => by
    cases h with
    | cons h1 h2 =>
      cases h1
      rw [DaAll.bools_inv h2]; rfl

/-! ### what a slot holds: data; an object of the part that changes; the script -/
inductive Ds where
  | dat (d : PyData) | adr (p : Addr) | sq (ns : List Int) | ty (n : String)
def Dv (K : PySem.W.Frag) (G : Hp) (v : V) : Ds → Prop
  | .dat d => Da G v d
  | .adr p => v = .ref p
  | .sq ns => ∃ a, v = .ref a ∧ SqL K G a (ns.map V.int)
  | .ty n => v = .ty n
theorem Dv.mono {K : PySem.W.Frag} {G G' : Hp} (e : Same G G') {v : V} {x : Ds} (h : Dv K G v x) : Dv K G' v x := by
  cases x with
  | dat d => exact Da.mono e h
  | adr p => exact h
  | sq ns => obtain ⟨a, h1, h2⟩ := h; exact ⟨a, h1, e.seq h2⟩
  | ty n => exact h
abbrev DvAll (K : PySem.W.Frag) (G : Hp) : List V → List Ds → Prop := Paired (Dv K G)
theorem DvAll.mono {K : PySem.W.Frag} {G G' : Hp} (e : Same G G') {vs : List V} {xs : List Ds} (h : DvAll K G vs xs) : DvAll K G' vs xs := L2.Paired.mapP h fun _ _ q => Dv.mono e q
abbrev dats (ds : List PyData) : List Ds := ds.map Ds.dat
abbrev nums (ns : List Int) : List PyData := ns.map PyData.int
theorem DaAll.dv {K : PySem.W.Frag} {G : Hp} : ∀ {ds : List PyData} {vs : List V}, DaAll G vs ds → DvAll K G vs (dats ds)
  | [], _, h => by cases h; exact .nil
  | d :: ds, _, h => by
    cases h with
    | cons h1 h2 => exact .cons h1 (DaAll.dv h2)
theorem DvAll.da {K : PySem.W.Frag} {G : Hp} : ∀ {ds : List PyData} {vs : List V}, DvAll K G vs (dats ds) → DaAll G vs ds
  | [], _, h => by cases h; exact .nil
  | d :: ds, _, h => by
    cases h with
    | cons h1 h2 => exact .cons h1 (DvAll.da h2)
theorem Paired.app {α β : Type} {F : α → β → Prop} : ∀ {l₁ r₁ : List α} {l₂ r₂ : List β}, Paired F l₁ l₂ → Paired F r₁ r₂ → Paired F (l₁ ++ r₁) (l₂ ++ r₂)
  | _, _, _, _, .nil, s => s
  | _, _, _, _, .cons r t, s => .cons r (Paired.app t s)
theorem Paired.at {α β : Type} {F : α → β → Prop} : ∀ {l₁ : List α} {l₂ : List β} {i : Nat} {b : β}, Paired F l₁ l₂ → l₂[i]? = some b → ∃ a, l₁[i]? = some a ∧ F a b
  | _, _, _, _, .nil, e => by simp at e
  | _, _, 0, _, .cons r _, e => by simp at e; subst e; exact ⟨_, rfl, r⟩
  | _, _, i + 1, b, .cons _ t, e => by
    obtain ⟨u, h1, h2⟩ := Paired.at (i := i) (b := b) t (by simpa using e)
    exact ⟨u, by simpa using h1, h2⟩
theorem Paired.at1 {α β : Type} {F : α → β → Prop} : ∀ {l₁ : List α} {l₂ : List β} {i : Nat} {a : α}, Paired F l₁ l₂ → l₁[i]? = some a → ∃ b, l₂[i]? = some b ∧ F a b
  | _, _, _, _, .nil, e => by simp at e
  | _, _, 0, _, .cons r _, e => by simp at e; subst e; exact ⟨_, rfl, r⟩
  | _, _, i + 1, b, .cons _ t, e => by
    obtain ⟨u, h1, h2⟩ := Paired.at1 (i := i) (a := b) t (by simpa using e)
    exact ⟨u, by simpa using h1, h2⟩
theorem Paired.takeP {α β : Type} {F : α → β → Prop} : ∀ {l₁ : List α} {l₂ : List β} (n : Nat), Paired F l₁ l₂ → Paired F (l₁.take n) (l₂.take n)
  | _, _, 0, _ => .nil
  | _, _, _ + 1, .nil => .nil
  | _, _, n + 1, .cons r t => .cons r (Paired.takeP n t)
theorem Paired.dropP {α β : Type} {F : α → β → Prop} : ∀ {l₁ : List α} {l₂ : List β} (n : Nat), Paired F l₁ l₂ → Paired F (l₁.drop n) (l₂.drop n)
  | _, _, 0, r => r
  | _, _, _ + 1, .nil => .nil
  | _, _, n + 1, .cons _ t => Paired.dropP n t
theorem Paired.setP {α β : Type} {F : α → β → Prop} {a : α} {b : β} (r : F a b) : ∀ {l₁ : List α} {l₂ : List β} (i : Nat), Paired F l₁ l₂ → Paired F (l₁.set i a) (l₂.set i b)
  | _, _, _, .nil => .nil
  | _, _, 0, .cons _ t => .cons r t
  | _, _, i + 1, .cons q t => .cons q (Paired.setP r i t)
theorem Paired.eraseP {α β : Type} {F : α → β → Prop} : ∀ {l₁ : List α} {l₂ : List β} (i : Nat), Paired F l₁ l₂ → Paired F (l₁.eraseIdx i) (l₂.eraseIdx i)
  | _, _, _, .nil => .nil
  | _, _, 0, .cons _ t => t
  | _, _, i + 1, .cons q t => .cons q (Paired.eraseP i t)
theorem Paired.repP {α β : Type} {F : α → β → Prop} {l₁ : List α} {l₂ : List β} (h : Paired F l₁ l₂) : ∀ n : Nat, Paired F (List.replicate n l₁).flatten (List.replicate n l₂).flatten
  | 0 => .nil
  | n + 1 => Paired.app h (Paired.repP h n)

/-! ### the part that changes -/
inductive MO where
  | lst (xs : List Ds) | tup (xs : List Ds) | dK (kvs : List (Key × Ds)) | dT (kvs : List (List Key × Ds)) | ins (C dx : Addr) (fs : List (Str × Ds)) | raw (o : HO)
abbrev MH := Addr → Option MO
def MH.up (M : MH) (p : Addr) (o : MO) : MH := fun b => if b = p then some o else M b
theorem MH.up_same {M : MH} {p : Addr} {o : MO} : M.up p o p = some o := by unfold MH.up; rw [if_pos rfl]
theorem MH.up_ne {M : MH} {p b : Addr} {o : MO} (h : b ≠ p) : M.up p o b = M b := by unfold MH.up; rw [if_neg h]
def MH.del (M : MH) (p : Addr) : MH := fun b => if b = p then none else M b
theorem MH.ne {M : MH} {p q : Addr} {o : MO} (h : M p = some o) (h' : M q = none) : p ≠ q := by
  intro e; subst e; rw [h] at h'; cases h'
theorem MH.ne' {M : MH} {p q : Addr} {o : MO} (h : M p = none) (h' : M q = some o) : p ≠ q := by
  intro e; subst e; rw [h] at h'; cases h'
def MOk (K : PySem.W.Frag) (G : Hp) : HO → MO → Prop
  | .lst vs, .lst xs => DvAll K G vs xs
  | .tup vs, .tup xs => DvAll K G vs xs
  | .dK kvs, .dK xs => Paired (fun (p : Key × V) (q : Key × Ds) => p.1 = q.1 ∧ Dv K G p.2 q.2) kvs xs
  | .dT kvs, .dT xs => Paired (fun (p : List Key × V) (q : List Key × Ds) => p.1 = q.1 ∧ Dv K G p.2 q.2) kvs xs
  | .ins C dx fs, .ins C' dx' gs => C = C' ∧ dx = dx' ∧ Paired (fun (p : Str × V) (q : Str × Ds) => p.1 = q.1 ∧ Dv K G p.2 q.2) fs gs
  | o, .raw u => o = u
  | _, _ => False
theorem MOk.mono {K : PySem.W.Frag} {G G' : Hp} (e : Same G G') {o : HO} {m : MO} (h : MOk K G o m) : MOk K G' o m := by
  cases o <;> cases m <;> first
    | exact h.elim
    | exact DvAll.mono e h
    | exact L2.Paired.mapP h fun _ _ q => ⟨q.1, Dv.mono e q.2⟩
    | exact ⟨h.1, h.2.1, L2.Paired.mapP h.2.2 fun _ _ q => ⟨q.1, Dv.mono e q.2⟩⟩
    | exact h
theorem MOk.lst {K : PySem.W.Frag} {G : Hp} {o : HO} {xs : List Ds} (h : MOk K G o (.lst xs)) : ∃ vs, o = .lst vs ∧ DvAll K G vs xs := by
  cases o <;> first | exact ⟨_, rfl, h⟩ | exact h.elim
theorem MOk.tup {K : PySem.W.Frag} {G : Hp} {o : HO} {xs : List Ds} (h : MOk K G o (.tup xs)) : ∃ vs, o = .tup vs ∧ DvAll K G vs xs := by
  cases o <;> first | exact ⟨_, rfl, h⟩ | exact h.elim
theorem MOk.dK {K : PySem.W.Frag} {G : Hp} {o : HO} {xs : List (Key × Ds)} (h : MOk K G o (.dK xs)) : ∃ vs, o = .dK vs ∧ Paired (fun (p : Key × V) (q : Key × Ds) => p.1 = q.1 ∧ Dv K G p.2 q.2) vs xs := by
  cases o <;> first | exact ⟨_, rfl, h⟩ | exact h.elim
theorem MOk.dT {K : PySem.W.Frag} {G : Hp} {o : HO} {xs : List (List Key × Ds)} (h : MOk K G o (.dT xs)) : ∃ vs, o = .dT vs ∧ Paired (fun (p : List Key × V) (q : List Key × Ds) => p.1 = q.1 ∧ Dv K G p.2 q.2) vs xs := by
  cases o <;> first | exact ⟨_, rfl, h⟩ | exact h.elim
theorem MOk.raw {K : PySem.W.Frag} {G : Hp} {o u : HO} (h : MOk K G o (.raw u)) : o = u := by
  cases o <;> exact h
theorem MOk.ins {K : PySem.W.Frag} {G : Hp} {o : HO} {C dx : Addr} {gs : List (Str × Ds)} (h : MOk K G o (.ins C dx gs)) : ∃ fs, o = .ins C dx fs ∧ Paired (fun (p : Str × V) (q : Str × Ds) => p.1 = q.1 ∧ Dv K G p.2 q.2) fs gs := by
  cases o <;> first | (obtain ⟨rfl, rfl, h⟩ := h; exact ⟨_, rfl, h⟩) | exact h.elim
/-- G (data) and M (what changes) lie in H, apart -/
structure Inn (K : PySem.W.Frag) (G : Hp) (M : MH) (H : Hp) : Prop where
  ex : Same G H
  ob : ∀ p m, M p = some m → G p = none ∧ ∃ o, H p = some o ∧ MOk K G o m
/-- a step: data stays, what is in neither stays -/
structure Stp (K : PySem.W.Frag) (M : MH) (G H : Hp) (M' : MH) (G' H' : Hp) : Prop where
  gg : Same G G'
  fr : ∀ a o, M a = none → H a = some o → H' a = some o
  inn : Inn K G' M' H'
  mnew : ∀ a, M a = none → H a ≠ none → M' a = none
  gnew : ∀ a, G a = none → M a = none → H a ≠ none → G' a = none
section
variable {K : PySem.W.Frag} {G H G' H' G2 H2 : Hp} {M M' M2 : MH}
theorem Inn.no (I : Inn K G M H) {p : Addr} (h : H p = none) : M p = none := by
  cases e : M p with
  | none => rfl
  | some m =>
    obtain ⟨_, o, h2, _⟩ := I.ob p m e
    rw [h] at h2; cases h2
theorem Inn.noG (I : Inn K G M H) {p : Addr} (h : H p = none) : G p = none := I.ex.free h
theorem Stp.refl (I : Inn K G M H) : Stp K M G H M G H := ⟨Same.refl _, fun _ _ _ h => h, I, fun _ h _ => h, fun _ h _ _ => h⟩
theorem Stp.trans (a : Stp K M G H M' G' H') (b : Stp K M' G' H' M2 G2 H2) : Stp K M G H M2 G2 H2 where
  gg := a.gg.trans b.gg
  fr := fun x o hm hh => b.fr x o (a.mnew x hm (by rw [hh]; exact fun z => by cases z)) (a.fr x o hm hh)
  inn := b.inn
  mnew := fun x hm hh => by
    have h1 := a.mnew x hm hh
    cases q : H x with
    | none => exact absurd q hh
    | some o => exact b.mnew x h1 (by rw [a.fr x o hm q]; exact fun z => by cases z)
  gnew := fun x hg hm hh => by
    have h1 := a.mnew x hm hh
    have h2 := a.gnew x hg hm hh
    cases q : H x with
    | none => exact absurd q hh
    | some o => exact b.gnew x h2 h1 (by rw [a.fr x o hm q]; exact fun z => by cases z)
/-- new data -/
theorem Stp.newD (I : Inn K G M H) {p : Addr} {o : HO} (hp : H p = none) : Stp K M G H M (upd G p o) (upd H p o) := by
  have gp := I.noG hp
  have mp := I.no hp
  refine ⟨fun b u e => by rw [upd_ne (ne_of_none e gp)]; exact e, fun a u _ e => by rw [upd_ne (ne_of_none e hp)]; exact e, ⟨fun b u e => ?_, fun q m e => ?_⟩, fun a h _ => h, fun a hg _ hh => by rw [upd_ne (fun z => hh (by rw [z]; exact hp))]; exact hg⟩
  · by_cases z : b = p
    · subst z; rw [upd_same] at e ⊢; exact e
    · rw [upd_ne z] at e ⊢; exact I.ex b u e
  · obtain ⟨h1, u, h2, h3⟩ := I.ob q m e
    have ne : q ≠ p := ne_of_none h2 hp
    refine ⟨by rw [upd_ne ne]; exact h1, u, by rw [upd_ne ne]; exact h2, h3.mono fun b u e => by rw [upd_ne (ne_of_none e gp)]; exact e⟩
/-- a new thing that changes -/
theorem Stp.newM (I : Inn K G M H) {p : Addr} {o : HO} {m : MO} (hp : H p = none) (h : MOk K G o m) : Stp K M G H (M.up p m) G (upd H p o) := by
  have gp := I.noG hp
  refine ⟨Same.refl _, fun a u _ e => by rw [upd_ne (ne_of_none e hp)]; exact e, ⟨fun b u e => by rw [upd_ne (ne_of_none e gp)]; exact I.ex b u e, fun q n e => ?_⟩, fun a h hh => ?_, fun _ h _ _ => h⟩
  · by_cases z : q = p
    · subst z; rw [MH.up_same] at e; cases e; exact ⟨gp, o, upd_same, h⟩
    · rw [MH.up_ne z] at e
      obtain ⟨h1, u, h2, h3⟩ := I.ob q n e
      exact ⟨h1, u, by rw [upd_ne z]; exact h2, h3⟩
  · by_cases z : a = p
    · subst z; exact absurd hp hh
    · rw [MH.up_ne z]; exact h
/-- a thing changes -/
theorem Stp.put (I : Inn K G M H) {p : Addr} {o : HO} {m m0 : MO} (hp : M p = some m0) (h : MOk K G o m) : Stp K M G H (M.up p m) G (upd H p o) := by
  obtain ⟨gp, u0, e0, _⟩ := I.ob p m0 hp
  refine ⟨Same.refl _, fun a u hm e => by rw [upd_ne (fun z => by subst z; rw [hp] at hm; cases hm)]; exact e, ⟨fun b u e => by rw [upd_ne (ne_of_none e gp)]; exact I.ex b u e, fun q n e => ?_⟩, fun a hm hh => ?_, fun _ h _ _ => h⟩
  · by_cases z : q = p
    · subst z; rw [MH.up_same] at e; cases e; exact ⟨gp, o, upd_same, h⟩
    · rw [MH.up_ne z] at e
      obtain ⟨h1, u, h2, h3⟩ := I.ob q n e
      exact ⟨h1, u, by rw [upd_ne z]; exact h2, h3⟩
  · rw [MH.up_ne (fun z => by subst z; rw [hp] at hm; cases hm)]; exact hm
/-- a list that changes no more is data -/
theorem Stp.freeze (I : Inn K G M H) {p : Addr} {ds : List PyData} (hp : M p = some (.lst (dats ds))) : ∃ G', Stp K M G H (M.del p) G' H ∧ Da G' (.ref p) (.list ds) := by
  obtain ⟨gp, o, e0, h0⟩ := I.ob p _ hp
  obtain ⟨vs, rfl, hv⟩ := MOk.lst h0
  have gg : Same G (upd G p (.lst vs)) := fun b u e => by rw [upd_ne (ne_of_none e gp)]; exact e
  refine ⟨upd G p (.lst vs), ⟨gg, fun a u _ e => e, ⟨fun b u e => ?_, fun q m e => ?_⟩, fun a h _ => ?_, fun a hg hm _ => by rw [upd_ne (fun z => by subst z; rw [hp] at hm; cases hm)]; exact hg⟩, .lst upd_same (DaAll.mono gg hv.da)⟩
  · by_cases z : b = p
    · subst z; rw [upd_same] at e; rw [e0]; exact e
    · rw [upd_ne z] at e; exact I.ex b u e
  · by_cases z : q = p
    · subst z; unfold MH.del at e; rw [if_pos rfl] at e; cases e
    · unfold MH.del at e; rw [if_neg z] at e
      obtain ⟨h1, u, h2, h3⟩ := I.ob q m e
      exact ⟨by rw [upd_ne z]; exact h1, u, h2, h3.mono gg⟩
  · unfold MH.del
    split
    · rfl
    · exact h
end
/-! ### slots -/
abbrev DS := List (Option Ds)
structure SD (K : PySem.W.Frag) (G : Hp) (σ : L2.St) (ds : DS) : Prop where
  len : σ.length = ds.length
  at' : ∀ (i : Nat) (x : Ds), ds[i]? = some (some x) → ∃ v : V, σ[i]? = some (some v) ∧ Dv K G v x
section
variable {K : PySem.W.Frag} {G G' H : Hp} {σ : L2.St} {ds : DS}
theorem SD.mono (e : Same G G') (h : SD K G σ ds) : SD K G' σ ds := ⟨h.len, fun i x q => let ⟨v, h1, h2⟩ := h.at' i x q; ⟨v, h1, h2.mono e⟩⟩
theorem SD.set (h : SD K G σ ds) {i : Nat} {v : V} {x : Ds} (q : Dv K G v x) : SD K G (σ.set i (some v)) (ds.set i (some x)) := by
  refine ⟨by rw [List.length_set, List.length_set]; exact h.len, fun j y e => ?_⟩
  by_cases z : i = j
  · subst z
    by_cases hl : i < ds.length
    · rw [List.getElem?_set_self hl] at e; cases e
      exact ⟨v, by rw [List.getElem?_set_self (by rw [h.len]; exact hl)], q⟩
    · rw [List.getElem?_eq_none (by rw [List.length_set]; omega)] at e; cases e
  · rw [List.getElem?_set_ne z] at e ⊢
    exact h.at' j y e
def wipeD (ds : DS) : List Nat → DS
  | [] => ds
  | v :: vs => (wipeD ds vs).set v none
theorem SD.wipe (h : SD K G σ ds) : ∀ vs : List Nat, SD K G (L2.wipe σ vs) (wipeD ds vs)
  | [] => h
  | i :: vs => by
    have ih := SD.wipe h vs
    refine ⟨by show ((L2.wipe σ vs).set i none).length = ((wipeD ds vs).set i none).length; rw [List.length_set, List.length_set]; exact ih.len, fun j y e => ?_⟩
    have e' : ((wipeD ds vs).set i none)[j]? = some (some y) := e
    show ∃ v, ((L2.wipe σ vs).set i none)[j]? = some (some v) ∧ _
    by_cases z : i = j
    · subst z
      by_cases hl : i < (wipeD ds vs).length
      · rw [List.getElem?_set_self hl] at e'; cases e'
      · rw [List.getElem?_eq_none (by rw [List.length_set]; omega)] at e'; cases e'
    · rw [List.getElem?_set_ne z] at e' ⊢
      exact ih.at' j y e'
/-- the slots outside of vs are as they were -/
structure Agr (vs : List Nat) (σ σ' : L2.St) : Prop where
  len : σ'.length = σ.length
  out : ∀ i : Nat, i ∉ vs → σ'[i]? = σ[i]?
theorem Agr.refl (vs : List Nat) (σ : L2.St) : Agr vs σ σ := ⟨rfl, fun _ _ => rfl⟩
theorem Agr.trans {vs : List Nat} {σ σ' σ2 : L2.St} (a : Agr vs σ σ') (b : Agr vs σ' σ2) : Agr vs σ σ2 := ⟨b.len.trans a.len, fun i h => (b.out i h).trans (a.out i h)⟩
theorem wipe_in {σ : L2.St} {i : Nat} : ∀ {vs : List Nat}, i ∈ vs → i < σ.length → (L2.wipe σ vs)[i]? = some none
  | v :: vs, h, hl => by
    show ((L2.wipe σ vs).set v none)[i]? = some none
    by_cases z : v = i
    · subst z; rw [List.getElem?_set_self (by rw [wipe_length]; exact hl)]
    · rw [List.getElem?_set_ne z]
      exact wipe_in (by rcases List.mem_cons.mp h with q | q; exact absurd q.symm z; exact q) hl
theorem wipe_out' {σ : L2.St} {i : Nat} : ∀ {vs : List Nat}, i ∉ vs → (L2.wipe σ vs)[i]? = σ[i]?
  | [], _ => rfl
  | v :: vs, h => by
    show ((L2.wipe σ vs).set v none)[i]? = σ[i]?
    rw [List.getElem?_set_ne (fun z => h (by subst z; exact List.mem_cons_self ..))]
    exact wipe_out' (fun z => h (List.mem_cons_of_mem _ z))
theorem Agr.wipe_eq {vs : List Nat} {σ σ' : L2.St} (a : Agr vs (L2.wipe σ vs) σ') : L2.wipe σ' vs = L2.wipe σ vs := by
  have hl : σ'.length = σ.length := by rw [a.len, wipe_length]
  refine List.ext_getElem? fun i => ?_
  by_cases h : i ∈ vs
  · by_cases z : i < σ.length
    · rw [wipe_in h z, wipe_in h (by omega)]
    · rw [List.getElem?_eq_none (by rw [wipe_length]; omega), List.getElem?_eq_none (by rw [wipe_length]; omega)]
  · rw [wipe_out' h, a.out i h]
end
end K62
end
section
set_option Elab.async false
set_option linter.all false
set_option maxRecDepth 100000
set_option maxHeartbeats 4000000
set_option autoImplicit false
namespace K62
open PySem L2
variable {K : PySem.W.Frag}
/-! ### what an expression makes, told without the heap -/
def Xp (K : PySem.W.Frag) (te : TE) (ds : DS) (M : MH) (Φ : Ds → MH → Prop) : Prop :=
  ∀ (σ : L2.St) (G H : Hp), SD K G σ ds → Inn K G M H → ∀ Q : VK, (∀ v x M' G' H', Stp K M G H M' G' H' → Dv K G' v x → Φ x M' → Q v H') → te σ H Q
def Xt (K : PySem.W.Frag) (tt : TT) (ds : DS) (M : MH) (Φ : Bool → MH → Prop) : Prop :=
  ∀ (σ : L2.St) (G H : Hp), SD K G σ ds → Inn K G M H → ∀ Q : Bool → Hp → Prop, (∀ b M' G' H', Stp K M G H M' G' H' → Φ b M' → Q b H') → tt σ H Q
def Xa (K : PySem.W.Frag) (ta : TA) (ds : DS) (M : MH) (Φ : List Ds → MH → Prop) : Prop :=
  ∀ (σ : L2.St) (G H : Hp), SD K G σ ds → Inn K G M H → ∀ Q : List V → Hp → Prop, (∀ vs xs M' G' H', Stp K M G H M' G' H' → DvAll K G' vs xs → Φ xs M' → Q vs H') → ta σ H Q
/-- an operation on two values; on one; a call on values -/
def Xo (K : PySem.W.Frag) (r : R2) (x y : Ds) (M : MH) (Φ : Ds → MH → Prop) : Prop :=
  ∀ (G H : Hp) (u w : V), Inn K G M H → Dv K G u x → Dv K G w y → ∀ Q : VK, (∀ v z M' G' H', Stp K M G H M' G' H' → Dv K G' v z → Φ z M' → Q v H') → r u w H Q
def Xu (K : PySem.W.Frag) (r : V → Hp → VK → Prop) (x : Ds) (M : MH) (Φ : Ds → MH → Prop) : Prop :=
  ∀ (G H : Hp) (u : V), Inn K G M H → Dv K G u x → ∀ Q : VK, (∀ v z M' G' H', Stp K M G H M' G' H' → Dv K G' v z → Φ z M' → Q v H') → r u H Q
def Xc (K : PySem.W.Frag) (r : List V → Hp → VK → Prop) (xs : List Ds) (M : MH) (Φ : Ds → MH → Prop) : Prop :=
  ∀ (G H : Hp) (us : List V), Inn K G M H → DvAll K G us xs → ∀ Q : VK, (∀ v z M' G' H', Stp K M G H M' G' H' → Dv K G' v z → Φ z M' → Q v H') → r us H Q
def Xg (K : PySem.W.Frag) (g : TG) (vs : List Nat) (x : Ds) (ds : DS) (M : MH) (Φ : DS → MH → Prop) : Prop :=
  ∀ (σ : L2.St) (G H : Hp) (v : V), SD K G σ ds → Inn K G M H → Dv K G v x → ∀ Q : L2.St → Hp → Prop, (∀ σ' ds' M' G' H', Agr vs σ σ' → SD K G' σ' ds' → Stp K M G H M' G' H' → Φ ds' M' → Q σ' H') → g v σ H Q
def Xgs (K : PySem.W.Frag) (g : TGs) (vs : List Nat) (xs : List Ds) (ds : DS) (M : MH) (Φ : DS → MH → Prop) : Prop :=
  ∀ (σ : L2.St) (G H : Hp) (us : List V), SD K G σ ds → Inn K G M H → DvAll K G us xs → ∀ Q : L2.St → Hp → Prop, (∀ σ' ds' M' G' H', Agr vs σ σ' → SD K G' σ' ds' → Stp K M G H M' G' H' → Φ ds' M' → Q σ' H') → g us σ H Q
structure XE where
  nx : DS → MH → Prop
  rt : Ds → MH → Prop
  bk : DS → MH → Prop := fun _ _ => False
  ct : DS → MH → Prop := fun _ _ => False
structure EOk (K : PySem.W.Frag) (M : MH) (G H : Hp) (Δ : XE) (D : Ends) : Prop where
  nx : ∀ σ' ds' M' G' H', Stp K M G H M' G' H' → SD K G' σ' ds' → Δ.nx ds' M' → D.nx σ' H'
  rt : ∀ v x M' G' H', Stp K M G H M' G' H' → Dv K G' v x → Δ.rt x M' → D.rt v H'
  bk : ∀ σ' ds' M' G' H', Stp K M G H M' G' H' → SD K G' σ' ds' → Δ.bk ds' M' → D.bk σ' H'
  ct : ∀ σ' ds' M' G' H', Stp K M G H M' G' H' → SD K G' σ' ds' → Δ.ct ds' M' → D.ct σ' H'
def Xs (K : PySem.W.Frag) (t : TS) (ds : DS) (M : MH) (Δ : XE) : Prop :=
  ∀ (σ : L2.St) (G H : Hp), SD K G σ ds → Inn K G M H → ∀ D : Ends, EOk K M G H Δ D → t D σ H
theorem EOk.step {M M' : MH} {G H G' H' : Hp} {Δ : XE} {D : Ends} (e : EOk K M G H Δ D) (s : Stp K M G H M' G' H') : EOk K M' G' H' Δ D :=
  ⟨fun σ' ds' M2 G2 H2 q => e.nx σ' ds' M2 G2 H2 (s.trans q), fun v x M2 G2 H2 q => e.rt v x M2 G2 H2 (s.trans q), fun σ' ds' M2 G2 H2 q => e.bk σ' ds' M2 G2 H2 (s.trans q), fun σ' ds' M2 G2 H2 q => e.ct σ' ds' M2 G2 H2 (s.trans q)⟩

section
variable {ds : DS} {M : MH} {Φ : Ds → MH → Prop} {ta tb te tc : TE} {tt tu : TT} {ar : TA}
/-! ### expressions -/
theorem xp_mono {Φ' : Ds → MH → Prop} (h : Xp K te ds M Φ') (k : ∀ x M', Φ' x M' → Φ x M') : Xp K te ds M Φ := fun σ G H sd I Q q => h σ G H sd I Q fun v x M' G' H' s d p => q v x M' G' H' s d (k x M' p)
theorem xt_mono {Φ Φ' : Bool → MH → Prop} (h : Xt K tt ds M Φ') (k : ∀ x M', Φ' x M' → Φ x M') : Xt K tt ds M Φ := fun σ G H sd I Q q => h σ G H sd I Q fun x M' G' H' s p => q x M' G' H' s (k x M' p)
theorem xp_var {i : Nat} {x : Ds} (h : ds[i]? = some (some x)) (k : Φ x M) : Xp K (tVar i) ds M Φ := fun σ G H sd I Q q => by
  obtain ⟨v, h1, h2⟩ := sd.at' i x h
  exact ⟨v, h1, q v x M G H (.refl I) h2 k⟩
/-- a written value -/
def cD : V → PyData
  | .non => .none
  | .bl b => .bool b
  | .int i => .int i
  | .str x => .str x
  | _ => .none
theorem cD_da {G : Hp} {v : V} (h : scal v v = true) (h2 : v ≠ .non → (∀ b, v ≠ .byt b) ∧ (∀ b, v ≠ .flt b) ∧ (∀ b, v ≠ .ty b) ∧ (∀ b, v ≠ .ref b)) : Da G v (cD v) := by
  cases v with
  | non => exact .non
  | bl b => exact .bl b
  | int i => exact .int i
  | str x => exact .str x
  | byt b => exact absurd rfl ((h2 (fun z => by cases z)).1 b)
  | flt b => exact absurd rfl ((h2 (fun z => by cases z)).2.1 b)
  | ty b => exact absurd rfl ((h2 (fun z => by cases z)).2.2.1 b)
  | ref b => exact absurd rfl ((h2 (fun z => by cases z)).2.2.2 b)
theorem xp_int {i : Int} (k : Φ (.dat (.int i)) M) : Xp K (tC (.int i)) ds M Φ := fun σ G H sd I Q q => q _ (.dat (.int i)) M G H (.refl I) (Da.int i) k
theorem xp_bl {i : Bool} (k : Φ (.dat (.bool i)) M) : Xp K (tC (.bl i)) ds M Φ := fun σ G H sd I Q q => q _ (.dat (.bool i)) M G H (.refl I) (Da.bl i) k
theorem xp_non (k : Φ (.dat .none) M) : Xp K (tC .non) ds M Φ := fun σ G H sd I Q q => q _ (.dat .none) M G H (.refl I) Da.non k
theorem xp_str {x : Str} (k : Φ (.dat (.str x)) M) : Xp K (tC (.str x)) ds M Φ := fun σ G H sd I Q q => q _ (.dat (.str x)) M G H (.refl I) (Da.str x) k
theorem xp_op {r : R2} (h : Xp K ta ds M fun x M1 => Xp K tb ds M1 fun y M2 => Xo K r x y M2 Φ) : Xp K (tOp r ta tb) ds M Φ := fun σ G H sd I Q q =>
  h σ G H sd I _ fun u x M1 G1 H1 s1 d1 h1 => h1 σ G1 H1 (sd.mono s1.gg) s1.inn _ fun w y M2 G2 H2 s2 d2 h2 => h2 G2 H2 u w s2.inn (d1.mono s2.gg) d2 Q fun v z M3 G3 H3 s3 d3 k => q v z M3 G3 H3 ((s1.trans s2).trans s3) d3 k
theorem xp_un {r : V → Hp → VK → Prop} (h : Xp K ta ds M fun x M1 => Xu K r x M1 Φ) : Xp K (tUn r ta) ds M Φ := fun σ G H sd I Q q =>
  h σ G H sd I _ fun u x M1 G1 H1 s1 d1 h1 => h1 G1 H1 u s1.inn d1 Q fun v z M3 G3 H3 s3 d3 k => q v z M3 G3 H3 (s1.trans s3) d3 k
theorem xa_nil {Φ : List Ds → MH → Prop} (k : Φ [] M) : Xa K tNil ds M Φ := fun σ G H sd I Q q => q _ _ M G H (.refl I) .nil k
theorem xa_cons {Φ : List Ds → MH → Prop} (h : Xp K te ds M fun x M1 => Xa K ar ds M1 fun xs M2 => Φ (x :: xs) M2) : Xa K (tCons te ar) ds M Φ := fun σ G H sd I Q q =>
  h σ G H sd I _ fun u x M1 G1 H1 s1 d1 h1 => h1 σ G1 H1 (sd.mono s1.gg) s1.inn _ fun us xs M2 G2 H2 s2 d2 h2 => q _ _ M2 G2 H2 (s1.trans s2) (.cons (d1.mono s2.gg) d2) h2
theorem xp_cb {r : List V → Hp → VK → Prop} (h : Xa K ar ds M fun xs M1 => Xc K r xs M1 Φ) : Xp K (tCB r ar) ds M Φ := fun σ G H sd I Q q =>
  h σ G H sd I _ fun us xs M1 G1 H1 s1 d1 h1 => h1 G1 H1 us s1.inn d1 Q fun v z M3 G3 H3 s3 d3 k => q v z M3 G3 H3 (s1.trans s3) d3 k
theorem sz_ok {n : Nat} (h : n ≤ 100000) : n ≤ sizeLine := Nat.le_trans h (by decide)
theorem sz_lt {n : Nat} (h : n < 100000) : n < sizeLine := Nat.lt_of_lt_of_le h (by decide)
/-- a new tuple, a new list of data -/
theorem xp_tup (h : Xa K ar ds M fun xs M1 => ∃ es, xs = dats es ∧ es.length ≤ 100000 ∧ Φ (.dat (.tuple es)) M1) : Xp K (tTup ar) ds M Φ := fun σ G H sd I Q q =>
  h σ G H sd I _ fun us xs M1 G1 H1 s1 d1 h1 => by
    obtain ⟨es, rfl, hl, k⟩ := h1
    refine ⟨sz_ok (by rw [d1.length, List.length_map]; exact hl), fun p hp => ?_⟩
    have s2 := Stp.newD s1.inn (o := .tup us) hp
    exact q _ (.dat (.tuple es)) M1 _ _ (s1.trans s2) (Da.tup upd_same (DaAll.mono s2.gg d1.da)) k
theorem xp_lst (h : Xa K ar ds M fun xs M1 => ∃ es, xs = dats es ∧ es.length ≤ 100000 ∧ Φ (.dat (.list es)) M1) : Xp K (tLst ar) ds M Φ := fun σ G H sd I Q q =>
  h σ G H sd I _ fun us xs M1 G1 H1 s1 d1 h1 => by
    obtain ⟨es, rfl, hl, k⟩ := h1
    refine ⟨sz_ok (by rw [d1.length, List.length_map]; exact hl), fun p hp => ?_⟩
    have s2 := Stp.newD s1.inn (o := .lst us) hp
    exact q _ (.dat (.list es)) M1 _ _ (s1.trans s2) (Da.lst upd_same (DaAll.mono s2.gg d1.da)) k
/-- .. that is to change, or that holds what changes -/
theorem xp_lstM (h : Xa K ar ds M fun xs M1 => xs.length ≤ 100000 ∧ ∀ p, M1 p = none → Φ (.adr p) (M1.up p (.lst xs))) : Xp K (tLst ar) ds M Φ := fun σ G H sd I Q q =>
  h σ G H sd I _ fun us xs M1 G1 H1 s1 d1 ⟨hl, k⟩ => by
    refine ⟨sz_ok (by rw [d1.length]; exact hl), fun p hp => ?_⟩
    have s2 := Stp.newM s1.inn (o := .lst us) (m := .lst xs) hp d1
    exact q _ (.adr p) _ _ _ (s1.trans s2) rfl (k p (s1.inn.no hp))
theorem xp_tupM (h : Xa K ar ds M fun xs M1 => xs.length ≤ 100000 ∧ ∀ p, M1 p = none → Φ (.adr p) (M1.up p (.tup xs))) : Xp K (tTup ar) ds M Φ := fun σ G H sd I Q q =>
  h σ G H sd I _ fun us xs M1 G1 H1 s1 d1 ⟨hl, k⟩ => by
    refine ⟨sz_ok (by rw [d1.length]; exact hl), fun p hp => ?_⟩
    have s2 := Stp.newM s1.inn (o := .tup us) (m := .tup xs) hp d1
    exact q _ (.adr p) _ _ _ (s1.trans s2) rfl (k p (s1.inn.no hp))
/-- what changes no more is data -/
theorem xp_frz (h : Xp K te ds M fun x M1 => ∃ p es, x = .adr p ∧ M1 p = some (.lst (dats es)) ∧ Φ (.dat (.list es)) (M1.del p)) : Xp K te ds M Φ := fun σ G H sd I Q q =>
  h σ G H sd I _ fun u x M1 G1 H1 s1 d1 h1 => by
    obtain ⟨p, es, rfl, hp, k⟩ := h1
    obtain ⟨G2, s2, d2⟩ := Stp.freeze s1.inn hp
    cases d1
    exact q _ (.dat (.list es)) _ _ _ (s1.trans s2) d2 k
/-! ### tests -/
theorem xt_tst {Φ : Bool → MH → Prop} (h : Xp K te ds M fun x M1 => ∃ b, x = .dat (.bool b) ∧ Φ b M1) : Xt K (tTest te) ds M Φ := fun σ G H sd I Q q =>
  h σ G H sd I _ fun u x M1 G1 H1 s1 d1 ⟨b, e, k⟩ => by
    subst e; cases d1
    exact ⟨b, rfl, q b M1 G1 H1 s1 k⟩
theorem xt_B {Φ : Bool → MH → Prop} (h : Xp K te ds M fun x M1 => ∃ b, x = .dat (.bool b) ∧ Φ b M1) : Xt K (tB te) ds M Φ := xt_tst h
theorem xt_and {Φ : Bool → MH → Prop} (h : Xt K tt ds M fun b M1 => (b = true → Xt K tu ds M1 Φ) ∧ (b = false → Φ false M1)) : Xt K (tAnd tt tu) ds M Φ := fun σ G H sd I Q q =>
  h σ G H sd I _ fun b M1 G1 H1 s1 ⟨h1, h2⟩ => by
    cases b with
    | true =>
      rw [if_pos rfl]
      exact h1 rfl σ G1 H1 (sd.mono s1.gg) s1.inn _ fun c M2 G2 H2 s2 k => q c M2 G2 H2 (s1.trans s2) k
    | false =>
      rw [if_neg Bool.false_ne_true]
      exact q false M1 G1 H1 s1 (h2 rfl)
theorem xt_or {Φ : Bool → MH → Prop} (h : Xt K tt ds M fun b M1 => (b = true → Φ true M1) ∧ (b = false → Xt K tu ds M1 Φ)) : Xt K (tOr tt tu) ds M Φ := fun σ G H sd I Q q =>
  h σ G H sd I _ fun b M1 G1 H1 s1 ⟨h1, h2⟩ => by
    cases b with
    | true =>
      rw [if_pos rfl]
      exact q true M1 G1 H1 s1 (h1 rfl)
    | false =>
      rw [if_neg Bool.false_ne_true]
      exact h2 rfl σ G1 H1 (sd.mono s1.gg) s1.inn _ fun c M2 G2 H2 s2 k => q c M2 G2 H2 (s1.trans s2) k
theorem xt_not {Φ : Bool → MH → Prop} (h : Xt K tt ds M fun b M1 => Φ (!b) M1) : Xt K (tNot tt) ds M Φ := fun σ G H sd I Q q => h σ G H sd I _ fun b M1 G1 H1 s1 k => q (!b) M1 G1 H1 s1 k
theorem xt_yes {Φ : Bool → MH → Prop} (h : Φ true M) : Xt K tYes ds M Φ := fun σ G H sd I Q q => q true M G H (.refl I) h
theorem xp_andV (h : Xp K ta ds M fun x M1 => ∃ b, x = .dat (.bool b) ∧ (b = true → Xp K tb ds M1 Φ) ∧ (b = false → Φ (.dat (.bool false)) M1)) : Xp K (tAndV ta tb) ds M Φ := fun σ G H sd I Q q =>
  h σ G H sd I _ fun u x M1 G1 H1 s1 d1 ⟨b, e, h1, h2⟩ => by
    subst e; cases d1
    refine ⟨b, rfl, ?_⟩
    cases b with
    | true =>
      rw [if_pos rfl]
      exact h1 rfl σ G1 H1 (sd.mono s1.gg) s1.inn _ fun v x M2 G2 H2 s2 d2 k => q v x M2 G2 H2 (s1.trans s2) d2 k
    | false =>
      rw [if_neg Bool.false_ne_true]
      exact q _ (.dat (.bool false)) M1 G1 H1 s1 (Da.bl false) (h2 rfl)
theorem xp_notV (h : Xp K ta ds M fun x M1 => ∃ b, x = .dat (.bool b) ∧ Φ (.dat (.bool (!b))) M1) : Xp K (tNotV ta) ds M Φ := fun σ G H sd I Q q =>
  h σ G H sd I _ fun u x M1 G1 H1 s1 d1 ⟨b, e, k⟩ => by
    subst e; cases d1
    exact ⟨b, rfl, q _ (.dat (.bool (!b))) M1 G1 H1 s1 (Da.bl _) k⟩
theorem xp_if (h : Xt K tt ds M fun b M1 => (b = true → Xp K ta ds M1 Φ) ∧ (b = false → Xp K tb ds M1 Φ)) : Xp K (tIf tt ta tb) ds M Φ := fun σ G H sd I Q q =>
  h σ G H sd I _ fun b M1 G1 H1 s1 ⟨h1, h2⟩ => by
    cases b with
    | true =>
      rw [if_pos rfl]
      exact h1 rfl σ G1 H1 (sd.mono s1.gg) s1.inn _ fun v x M2 G2 H2 s2 d2 k => q v x M2 G2 H2 (s1.trans s2) d2 k
    | false =>
      rw [if_neg Bool.false_ne_true]
      exact h2 rfl σ G1 H1 (sd.mono s1.gg) s1.inn _ fun v x M2 G2 H2 s2 d2 k => q v x M2 G2 H2 (s1.trans s2) d2 k
theorem xp_chain {r r' : R2} (h : Xp K ta ds M fun x M1 => Xp K tb ds M1 fun y M2 => Xo K r x y M2 fun z M3 => ∃ b, z = .dat (.bool b) ∧ (b = true → Xp K tc ds M3 fun w M4 => Xo K r' y w M4 Φ) ∧ (b = false → Φ (.dat (.bool false)) M3)) : Xp K (tChain r r' ta tb tc) ds M Φ := fun σ G H sd I Q q =>
  h σ G H sd I _ fun u x M1 G1 H1 s1 d1 h1 => h1 σ G1 H1 (sd.mono s1.gg) s1.inn _ fun w y M2 G2 H2 s2 d2 h2 => h2 G2 H2 u w s2.inn (d1.mono s2.gg) d2 _ fun v z M3 G3 H3 s3 d3 ⟨b, e, ht, hf⟩ => by
    subst e; cases d3
    refine ⟨b, rfl, ?_⟩
    have s := (s1.trans s2).trans s3
    cases b with
    | true =>
      rw [if_pos rfl]
      exact ht rfl σ G3 H3 (sd.mono s.gg) s.inn _ fun w' y' M4 G4 H4 s4 d4 h4 => h4 G4 H4 w w' s4.inn (d2.mono (s3.trans s4).gg) d4 Q fun v z M5 G5 H5 s5 d5 k => q v z M5 G5 H5 ((s.trans s4).trans s5) d5 k
    | false =>
      rw [if_neg Bool.false_ne_true]
      exact q _ (.dat (.bool false)) M3 G3 H3 s (Da.bl false) (hf rfl)
end

/-! ### statements -/
section
variable {ds : DS} {M : MH} {Δ : XE} {t u : TS} {te : TE} {tt : TT} {g : TG}
theorem xs_mono {Δ' : XE} (h : Xs K t ds M Δ') (k1 : ∀ x M', Δ'.nx x M' → Δ.nx x M') (k2 : ∀ x M', Δ'.rt x M' → Δ.rt x M') (k3 : ∀ x M', Δ'.bk x M' → Δ.bk x M') (k4 : ∀ x M', Δ'.ct x M' → Δ.ct x M') : Xs K t ds M Δ := fun σ G H sd I D e =>
  h σ G H sd I D ⟨fun a b c d f s1 s2 q => e.nx a b c d f s1 s2 (k1 _ _ q), fun a b c d f s1 s2 q => e.rt a b c d f s1 s2 (k2 _ _ q), fun a b c d f s1 s2 q => e.bk a b c d f s1 s2 (k3 _ _ q), fun a b c d f s1 s2 q => e.ct a b c d f s1 s2 (k4 _ _ q)⟩
theorem xs_nil (h : Δ.nx ds M) : Xs K tNext ds M Δ := fun σ G H sd I D e => e.nx σ ds M G H (.refl I) sd h
theorem xs_seq (h : Xs K t ds M { Δ with nx := fun ds' M' => Xs K u ds' M' Δ }) : Xs K (tSeq t u) ds M Δ := fun σ G H sd I D e =>
  h σ G H sd I _ ⟨fun σ' ds' M' G' H' s sd' q => q σ' G' H' sd' s.inn D (e.step s), e.rt, e.bk, e.ct⟩
theorem xs_drop (h : Xp K te ds M fun _ M1 => Δ.nx ds M1) : Xs K (tDrop te) ds M Δ := fun σ G H sd I D e =>
  h σ G H sd I _ fun v x M1 G1 H1 s1 _ k => e.nx σ ds M1 G1 H1 s1 (sd.mono s1.gg) k
theorem xs_ret (h : Xp K te ds M Δ.rt) : Xs K (tRet te) ds M Δ := fun σ G H sd I D e => h σ G H sd I _ fun v x M1 G1 H1 s1 d k => e.rt v x M1 G1 H1 s1 d k
theorem xs_retN (h : Δ.rt (.dat .none) M) : Xs K tRetN ds M Δ := fun σ G H sd I D e => e.rt _ (.dat .none) M G H (.refl I) Da.non h
theorem xs_if (h : Xt K tt ds M fun b M1 => (b = true → Xs K t ds M1 Δ) ∧ (b = false → Xs K u ds M1 Δ)) : Xs K (tIfS tt t u) ds M Δ := fun σ G H sd I D e =>
  h σ G H sd I _ fun b M1 G1 H1 s1 ⟨h1, h2⟩ => by
    cases b with
    | true =>
      rw [if_pos rfl]
      exact h1 rfl σ G1 H1 (sd.mono s1.gg) s1.inn D (e.step s1)
    | false =>
      rw [if_neg Bool.false_ne_true]
      exact h2 rfl σ G1 H1 (sd.mono s1.gg) s1.inn D (e.step s1)
theorem xs_asg {vs : List Nat} (h : Xp K te ds M fun x M1 => Xg K g vs x ds M1 Δ.nx) : Xs K (tAsg te g) ds M Δ := fun σ G H sd I D e =>
  h σ G H sd I _ fun v x M1 G1 H1 s1 d1 h1 => h1 σ G1 H1 v (sd.mono s1.gg) s1.inn d1 _ fun σ' ds' M' G' H' _ sd' s2 k => e.nx σ' ds' M' G' H' (s1.trans s2) sd' k
theorem xs_set {i : Nat} (h : Xp K te ds M fun x M1 => Δ.nx (ds.set i (some x)) M1) : Xs K (tAsg te (gName i)) ds M Δ := fun σ G H sd I D e =>
  h σ G H sd I _ fun v x M1 G1 H1 s1 d1 k => e.nx _ _ M1 G1 H1 s1 ((sd.mono s1.gg).set d1) k
theorem xs_brk (h : Δ.bk ds M) : Xs K tBreak ds M Δ := fun σ G H sd I D e => e.bk σ ds M G H (.refl I) sd h
/-! ### targets -/
theorem xg_name {i : Nat} {vs : List Nat} {x : Ds} {Φ : DS → MH → Prop} (hi : i ∈ vs) (h : Φ (ds.set i (some x)) M) : Xg K (gName i) vs x ds M Φ := fun σ G H v sd I d Q q => by
  refine q _ _ M G H ⟨List.length_set .., fun j hj => ?_⟩ (sd.set d) (.refl I) h
  exact List.getElem?_set_ne (fun z => hj (by rw [← z]; exact hi))
theorem xgs_nil {vs : List Nat} {Φ : DS → MH → Prop} (h : Φ ds M) : Xgs K gNil vs [] ds M Φ := fun σ G H us sd I d Q q => by
  cases d
  exact ⟨rfl, q _ _ M G H (.refl _ _) sd (.refl I) h⟩
theorem xgs_cons {g : TG} {gs : TGs} {vs : List Nat} {x : Ds} {xs : List Ds} {Φ : DS → MH → Prop} (h : Xg K g vs x ds M fun ds1 M1 => Xgs K gs vs xs ds1 M1 Φ) : Xgs K (gCons g gs) vs (x :: xs) ds M Φ := fun σ G H us sd I d Q q => by
  cases d with
  | cons d1 d2 =>
    refine ⟨_, _, rfl, h σ G H _ sd I d1 _ fun σ1 ds1 M1 G1 H1 a1 sd1 s1 k1 => ?_⟩
    exact k1 σ1 G1 H1 _ sd1 s1.inn (DvAll.mono s1.gg d2) Q fun σ2 ds2 M2 G2 H2 a2 sd2 s2 k2 => q σ2 ds2 M2 G2 H2 (a1.trans a2) sd2 (s1.trans s2) k2
theorem xg_tup {n : Nat} {gs : TGs} {vs : List Nat} {es : List PyData} {Φ : DS → MH → Prop} (hn : es.length = n) (h : Xgs K gs vs (dats es) ds M Φ) : Xg K (gTup K n gs) vs (.dat (.tuple es)) ds M Φ := fun σ G H v sd I d Q q => by
  cases d with
  | tup h1 h2 => exact ⟨_, _, rfl, SqT.of (I.ex _ _ h1), h2.length.trans hn, h σ G H _ sd I h2.dv Q q⟩
theorem xg_tupM {n : Nat} {gs : TGs} {vs : List Nat} {p : Addr} {es : List Ds} {Φ : DS → MH → Prop} (hp : M p = some (.tup es)) (hn : es.length = n) (h : Xgs K gs vs es ds M Φ) : Xg K (gTup K n gs) vs (.adr p) ds M Φ := fun σ G H v sd I d Q q => by
  cases d
  obtain ⟨_, o, e, m⟩ := I.ob p _ hp
  obtain ⟨us, rfl, hv⟩ := m.tup
  exact ⟨_, _, rfl, SqT.of e, hv.length.trans hn, h σ G H _ sd I hv Q q⟩
/-- xs[i] = v -/
theorem xg_setL {to ti : TE} {x : Ds} {vs : List Nat} {Φ : DS → MH → Prop} (h : Xp K to ds M fun o M1 => Xp K ti ds M1 fun y M2 => ∃ p es j, o = .adr p ∧ y = .dat (.int ((j : Nat) : Int)) ∧ M2 p = some (.lst es) ∧ j < es.length ∧ Φ ds (M2.up p (.lst (es.set j x)))) : Xg K (gSub to ti rSetL) vs x ds M Φ := fun σ G H v sd I d Q q =>
  h σ G H sd I _ fun u o M1 G1 H1 s1 d1 h1 => h1 σ G1 H1 (sd.mono s1.gg) s1.inn _ fun w y M2 G2 H2 s2 d2 h2 => by
    obtain ⟨p, es, j, rfl, rfl, hp, hj, k⟩ := h2
    cases d1; cases d2
    obtain ⟨_, o, e, m⟩ := s2.inn.ob p _ hp
    obtain ⟨us, rfl, hv⟩ := m.lst
    have hl := hv.length
    have s := s1.trans s2
    have hm : MOk K G2 (.lst (us.set j v)) (.lst (es.set j x)) := Paired.setP (d.mono s.gg) j hv
    have s3 := Stp.put s2.inn hp (o := .lst (us.set j v)) hm
    refine ⟨p, us, (j : Int), j, rfl, rfl, e, ?_, q σ ds _ _ _ (.refl _ _) (sd.mono (s.trans s3).gg) (s.trans s3) k⟩
    unfold ixN
    rw [if_pos (by omega), if_pos (by omega)]
    simp
/-! ### while -/
theorem xs_while {Wf : Nat → DS → MH → Prop} (m0 : Nat) (h0 : Wf m0 ds M) (hs : ∀ m ds' M', Wf m ds' M' → Xt K tt ds' M' fun b M1 => (b = true → ∃ N : DS → MH → Prop, (∀ ds2 M2, N ds2 M2 → ∃ m', m' < m ∧ Wf m' ds2 M2) ∧ Xs K t ds' M1 { Δ with nx := N, ct := N, bk := Δ.nx }) ∧ (b = false → Δ.nx ds' M1)) : Xs K (tWhile tt t) ds M Δ := fun σ G H sd I D e => by
  refine ⟨fun m σ' H' => ∃ ds' M' G', Stp K M G H M' G' H' ∧ SD K G' σ' ds' ∧ Wf m ds' M', ⟨m0, ds, M, G, .refl I, sd, h0⟩, ?_⟩
  rintro m σ' H' ⟨ds', M', G', s, sd', w⟩
  refine hs m ds' M' w σ' G' H' sd' s.inn _ fun b M1 G1 H1 s1 ⟨h1, h2⟩ => ?_
  cases b with
  | true =>
    rw [if_pos rfl]
    obtain ⟨N, hN, hb⟩ := h1 rfl
    have e1 := e.step (s.trans s1)
    refine ⟨fun σ2 H2 => ∃ ds2 M2 G2, Stp K M G H M2 G2 H2 ∧ SD K G2 σ2 ds2 ∧ N ds2 M2, fun σ2 H2 ⟨ds2, M2, G2, s2, sd2, n⟩ => ?_, hb σ' G1 H1 (sd'.mono s1.gg) s1.inn _ ⟨?_, ?_, ?_, ?_⟩⟩
    · obtain ⟨m', hm, w'⟩ := hN ds2 M2 n
      exact ⟨m', hm, ds2, M2, G2, s2, sd2, w'⟩
    · exact fun σ2 ds2 M2 G2 H2 s2 sd2 n => ⟨ds2, M2, G2, (s.trans s1).trans s2, sd2, n⟩
    · exact e1.rt
    · exact e1.nx
    · exact fun σ2 ds2 M2 G2 H2 s2 sd2 n => ⟨ds2, M2, G2, (s.trans s1).trans s2, sd2, n⟩
  | false =>
    rw [if_neg Bool.false_ne_true]
    exact (e.step (s.trans s1)).nx σ' ds' M1 G1 H1 (.refl s1.inn) (sd'.mono s1.gg) (h2 rfl)
end
/-! ### what is walked -/
/-- n turns; while Gd holds of what changes it goes; what it gives at turn i is told by Y -/
structure Wk (K : PySem.W.Frag) (J : It) (n : Nat) (Gd : MH → Prop) (Y : Nat → Ds → MH → MH → Prop) (G0 : Hp) : Prop where
  goes : ∀ i M G H, i < n → Same G0 G → Inn K G M H → Gd M → J.go i H
  stops : ∀ M G H, Same G0 G → Inn K G M H → Gd M → J.stop n H
  yields : ∀ i M G H v H', i < n → Same G0 G → Inn K G M H → Gd M → J.yld i H v H' → ∃ x M' G', Stp K M G H M' G' H' ∧ Dv K G' v x ∧ Y i x M M'
def Xi (K : PySem.W.Frag) (wi : TI) (ds : DS) (M : MH) (Φ : Nat → (MH → Prop) → (Nat → Ds → MH → MH → Prop) → MH → Prop) : Prop :=
  ∀ (σ : L2.St) (G H : Hp), SD K G σ ds → Inn K G M H → ∀ R : It → Hp → Prop, (∀ J n Gd Y M' G' H', Stp K M G H M' G' H' → Wk K J n Gd Y G' → Φ n Gd Y M' → R J H') → wi σ H R
/-- the i-th of xs -/
def YI (xs : List Ds) : Nat → Ds → MH → MH → Prop := fun i x M M' => xs[i]? = some x ∧ M' = M
/-- for -/
structure ForI (K : PySem.W.Frag) (g : TG) (t : TS) (Δ : XE) (ds : DS) (n : Nat) (Gd : MH → Prop) (Y : Nat → Ds → MH → MH → Prop) (M : MH) (vs : List Nat) (Iv : Nat → DS → MH → Prop) : Prop where
  beg : Iv 0 ds M
  gd : ∀ i ds' M', i ≤ n → Iv i ds' M' → Gd M'
  turn : ∀ i x ds' M' M2, i < n → Iv i ds' M' → Y i x M' M2 → Xg K g vs x ds' M2 fun ds2 M3 => Xs K t ds2 M3 { Δ with nx := Iv (i + 1), ct := Iv (i + 1), bk := Δ.nx }
  fin : ∀ ds' M', Iv n ds' M' → Δ.nx ds' M'
theorem xs_for {ds : DS} {M : MH} {Δ : XE} {wi : TI} {g : TG} {t : TS} (h : Xi K wi ds M fun n Gd Y M1 => ∃ vs Iv, ForI K g t Δ ds n Gd Y M1 vs Iv) : Xs K (tFor wi g t) ds M Δ := fun σ G H sd I D e =>
  h σ G H sd I _ fun J n Gd Y M1 G1 H1 s1 wk ⟨vs, Iv, f⟩ => by
    refine ⟨fun i m σ' H' => m = n - i ∧ i ≤ n ∧ ∃ ds' M' G', Stp K M1 G1 H1 M' G' H' ∧ SD K G' σ' ds' ∧ Iv i ds' M', ⟨n, by omega, Nat.zero_le _, ds, M1, G1, .refl s1.inn, sd.mono s1.gg, f.beg⟩, ?_⟩
    rintro i m σ' H' ⟨rfl, hi, ds', M', G', s, sd', iv⟩
    have gd := f.gd i ds' M' hi iv
    by_cases hlt : i < n
    · refine .inr ⟨wk.goes i M' G' H' hlt s.gg s.inn gd, fun σ2 H2 => ∃ ds2 M2 G2, Stp K M1 G1 H1 M2 G2 H2 ∧ SD K G2 σ2 ds2 ∧ Iv (i + 1) ds2 M2, fun σ2 H2 ⟨ds2, M2, G2, s2, sd2, n2⟩ => ⟨n - (i + 1), by omega, rfl, hlt, ds2, M2, G2, s2, sd2, n2⟩, fun v H2 y => ?_⟩
      obtain ⟨x, M2, G2, s2, d2, hy⟩ := wk.yields i M' G' H' v H2 hlt s.gg s.inn gd y
      have e2 := e.step (s1.trans (s.trans s2))
      refine f.turn i x ds' M' M2 hlt iv hy σ' G2 H2 v (sd'.mono s2.gg) s2.inn d2 _ fun σ3 ds3 M3 G3 H3 _ sd3 s3 hb => ?_
      have e3 := e2.step s3
      refine hb σ3 G3 H3 sd3 s3.inn _ ⟨?_, e3.rt, e3.nx, ?_⟩
      · exact fun σ4 ds4 M4 G4 H4 s4 sd4 iv4 => ⟨ds4, M4, G4, ((s.trans s2).trans s3).trans s4, sd4, iv4⟩
      · exact fun σ4 ds4 M4 G4 H4 s4 sd4 iv4 => ⟨ds4, M4, G4, ((s.trans s2).trans s3).trans s4, sd4, iv4⟩
    · have e' : i = n := by omega
      subst e'
      exact .inl ⟨wk.stops M' G' H' s.gg s.inn gd, (e.step (s1.trans s)).nx σ' ds' M' G' H' (.refl s.inn) sd' (f.fin ds' M' iv)⟩
/-- a comprehension -/
structure LcI (K : PySem.W.Frag) (g : TG) (tt : TT) (te : TE) (Φ : Ds → MH → Prop) (ds : DS) (n : Nat) (Gd : MH → Prop) (Y : Nat → Ds → MH → MH → Prop) (M : MH) (vs : List Nat) (Iv : Nat → List Ds → MH → Prop) : Prop where
  beg : Iv 0 [] M
  gd : ∀ i acc M', i ≤ n → Iv i acc M' → Gd M'
  len : ∀ i acc M', i ≤ n → Iv i acc M' → acc.length < 100000
  turn : ∀ i x acc M' M2, i < n → Iv i acc M' → Y i x M' M2 → Xg K g vs x (wipeD ds vs) M2 fun ds2 M3 => Xt K tt ds2 M3 fun b M4 => (b = true → Xp K te ds2 M4 fun y M5 => Iv (i + 1) (acc ++ [y]) M5) ∧ (b = false → Iv (i + 1) acc M4)
  fin : ∀ acc M', Iv n acc M' → (∃ es, acc = dats es ∧ Φ (.dat (.list es)) M') ∨ ∀ D, M' D = none → Φ (.adr D) (M'.up D (.lst acc))
theorem xp_lc {ds : DS} {M : MH} {Φ : Ds → MH → Prop} {wi : TI} {g : TG} {tt : TT} {te : TE} {vs : List Nat} (h : Xi K wi ds M fun n Gd Y M1 => ∃ Iv, LcI K g tt te Φ ds n Gd Y M1 vs Iv) : Xp K (tLc wi g tt te vs) ds M Φ := fun σ G H sd I Q q =>
  h σ G H sd I _ fun J n Gd Y M1 G1 H1 s1 wk ⟨Iv, f⟩ D hD => by
    have sdw := (sd.mono s1.gg).wipe vs
    -- the new list lies beside G1 and M1
    let Wf : Nat → Hp → Prop := fun i H' => ∃ acc us M' G', Inn K G' M' H' ∧ Same G1 G' ∧ (∀ a o, M1 a = none → H1 a = some o → H' a = some o) ∧ (∀ a, M1 a = none → H1 a ≠ none → M' a = none) ∧ (∀ a, G1 a = none → M1 a = none → H1 a ≠ none → G' a = none) ∧ M' D = none ∧ G' D = none ∧ H' D = some (.lst us) ∧ DvAll K G' us acc ∧ Iv i acc M'
    have one : ∀ {M' M2 : MH} {G' H' G2 H2 : Hp} {us us2 : List V}, Inn K G' M' H' → Same G1 G' → (∀ a o, M1 a = none → H1 a = some o → H' a = some o) → (∀ a, M1 a = none → H1 a ≠ none → M' a = none) → (∀ a, G1 a = none → M1 a = none → H1 a ≠ none → G' a = none) → M' D = none → G' D = none → H' D = some (.lst us) →
        Stp K M' G' H' M2 G2 H2 → Inn K G2 M2 (upd H2 D (.lst us2)) ∧ Same G1 G2 ∧ (∀ a o, M1 a = none → H1 a = some o → (upd H2 D (.lst us2)) a = some o) ∧ (∀ a, M1 a = none → H1 a ≠ none → M2 a = none) ∧ (∀ a, G1 a = none → M1 a = none → H1 a ≠ none → G2 a = none) ∧ M2 D = none ∧ G2 D = none ∧ H2 D = some (.lst us) := by
      intro M' M2 G' H' G2 H2 us us2 I' g' fr' mn' gn' mD gD hDl s
      have e2 := s.fr D _ mD hDl
      have mD2 := s.mnew D mD (by rw [hDl]; exact fun z => by cases z)
      have gD2 := s.gnew D gD mD (by rw [hDl]; exact fun z => by cases z)
      refine ⟨⟨fun a o e => by rw [upd_ne (ne_of_none e gD2)]; exact s.inn.ex a o e, fun p m e => ?_⟩, g'.trans s.gg, fun a o hm hh => ?_, fun a hm hh => ?_, fun a hg hm hh => ?_, mD2, gD2, e2⟩
      · obtain ⟨h1, u, h2, h3⟩ := s.inn.ob p m e
        exact ⟨h1, u, by rw [upd_ne (MH.ne e mD2)]; exact h2, h3⟩
      · rw [upd_ne (ne_of_none hh hD)]
        exact s.fr a o (mn' a hm (by rw [hh]; exact fun z => by cases z)) (fr' a o hm hh)
      · cases q1 : H1 a with
        | none => exact absurd q1 hh
        | some o => exact s.mnew a (mn' a hm hh) (by rw [fr' a o hm q1]; exact fun z => by cases z)
      · cases q1 : H1 a with
        | none => exact absurd q1 hh
        | some o => exact s.gnew a (gn' a hg hm hh) (mn' a hm hh) (by rw [fr' a o hm q1]; exact fun z => by cases z)
    have updD : ∀ {H2 : Hp} {us : List V}, H2 D = some (.lst us) → upd H2 D (.lst us) = H2 := fun {H2 us} e => by
      funext b
      by_cases z : b = D
      · subst z; rw [upd_same, e]
      · rw [upd_ne z]
    refine ⟨fun i m H' => m = n - i ∧ i ≤ n ∧ Wf i H', ⟨n, by omega, Nat.zero_le _, [], [], M1, G1, ⟨fun a o e => by rw [upd_ne (ne_of_none e (s1.inn.noG hD))]; exact s1.inn.ex a o e, fun p m e => ?_⟩, .refl _, fun a o _ e => by rw [upd_ne (ne_of_none e hD)]; exact e, fun a h _ => h, fun a h _ _ => h, s1.inn.no hD, s1.inn.noG hD, upd_same, .nil, f.beg⟩, ?_⟩
    · obtain ⟨h1, u, h2, h3⟩ := s1.inn.ob p m e
      exact ⟨h1, u, by rw [upd_ne (ne_of_none h2 hD)]; exact h2, h3⟩
    rintro i m H' ⟨rfl, hi, acc, us, M', G', I', g', fr', mn', gn', mD, gD, hDl, da, iv⟩
    have gd := f.gd i acc M' hi iv
    by_cases hlt : i < n
    · refine .inr ⟨wk.goes i M' G' H' hlt g' I' gd, Wf (i + 1), fun H2 w2 => ⟨n - (i + 1), by omega, rfl, hlt, w2⟩, fun v H2 y => ?_⟩
      obtain ⟨x, M2, G2, s2, d2, hy⟩ := wk.yields i M' G' H' v H2 hlt g' I' gd y
      refine f.turn i x acc M' M2 hlt iv hy (L2.wipe σ vs) G2 H2 v (sdw.mono (g'.trans s2.gg)) s2.inn d2 _ fun σ3 ds3 M3 G3 H3 ag sd3 s3 ht => ?_
      refine ⟨ag.wipe_eq, ht σ3 G3 H3 sd3 s3.inn _ fun b M4 G4 H4 s4 ⟨hT, hF⟩ => ?_⟩
      have sT := (s2.trans s3).trans s4
      cases b with
      | true =>
        rw [if_pos rfl]
        refine hT rfl σ3 G4 H4 (sd3.mono s4.gg) s4.inn _ fun v5 y5 M5 G5 H5 s5 d5 iv5 => ?_
        have sU := sT.trans s5
        obtain ⟨a1, a2, a3, a4, a5, a6, a7, a8⟩ := one (us2 := us ++ [v5]) I' g' fr' mn' gn' mD gD hDl sU
        have da5 := DvAll.mono sU.gg da
        have hl := f.len i acc M' hi iv
        exact ⟨us, a8, sz_lt (by rw [da.length]; exact hl), acc ++ [y5], us ++ [v5], M5, G5, a1, a2, a3, a4, a5, a6, a7, upd_same, Paired.app da5 (.cons d5 .nil), iv5⟩
      | false =>
        rw [if_neg Bool.false_ne_true]
        obtain ⟨a1, a2, a3, a4, a5, a6, a7, a8⟩ := one (us2 := us) I' g' fr' mn' gn' mD gD hDl sT
        rw [updD a8] at a1 a3
        exact ⟨acc, us, M4, G4, a1, a2, a3, a4, a5, a6, a7, a8, DvAll.mono sT.gg da, hF rfl⟩
    · have e' : i = n := by omega
      subst e'
      refine .inl ⟨wk.stops M' G' H' g' I' gd, ?_⟩
      rcases f.fin acc M' iv with ⟨es, rfl, k⟩ | k
      · have gg : Same G' (upd G' D (.lst us)) := fun b u e => by rw [upd_ne (ne_of_none e gD)]; exact e
        refine q _ (.dat (.list es)) M' (upd G' D (.lst us)) H' (s1.trans ⟨g'.trans gg, fr', ⟨fun b u e => ?_, fun p m e => ?_⟩, mn', fun a hg hm hh => ?_⟩) (Da.lst upd_same (DaAll.mono gg da.da)) k
        · by_cases z : b = D
          · subst z; rw [upd_same] at e; rw [hDl]; exact e
          · rw [upd_ne z] at e; exact I'.ex b u e
        · obtain ⟨h1, u, h2, h3⟩ := I'.ob p m e
          exact ⟨by rw [upd_ne (MH.ne e mD)]; exact h1, u, h2, h3.mono gg⟩
        · rw [upd_ne (fun z => by subst z; exact hh hD)]
          exact gn' a hg hm hh
      · refine q _ (.adr D) (M'.up D (.lst acc)) G' H' (s1.trans ⟨g', fr', ⟨I'.ex, fun p m e => ?_⟩, fun a hm hh => ?_, gn'⟩) rfl (k D mD)
        · by_cases z : p = D
          · subst z; rw [MH.up_same] at e; cases e
            exact ⟨gD, _, hDl, da⟩
          · rw [MH.up_ne z] at e; exact I'.ob p m e
        · rw [MH.up_ne (fun z => by subst z; exact hh hD)]
          exact mn' a hm hh
end K62
end
section
set_option Elab.async false
set_option linter.all false
set_option maxRecDepth 100000
set_option maxHeartbeats 4000000
set_option autoImplicit false
namespace K62
open PySem L2
variable {K : PySem.W.Frag}
/-- a list that is being made lies beside all else -/
structure Bs (K : PySem.W.Frag) (M1 : MH) (G1 H1 : Hp) (D : Addr) (acc : List Ds) (M' : MH) (G' H' : Hp) : Prop where
  inn : Inn K G' M' H'
  gg : Same G1 G'
  fr : ∀ a o, M1 a = none → H1 a = some o → H' a = some o
  mn : ∀ a, M1 a = none → H1 a ≠ none → M' a = none
  gn : ∀ a, G1 a = none → M1 a = none → H1 a ≠ none → G' a = none
  mD : M' D = none
  gD : G' D = none
  hD : ∃ us, H' D = some (.lst us) ∧ DvAll K G' us acc
section
variable {M1 M' M2 : MH} {G1 H1 G' H' G2 H2 : Hp} {D : Addr} {acc : List Ds}
theorem Bs.beg (I : Inn K G1 M1 H1) (hD : H1 D = none) : Bs K M1 G1 H1 D [] M1 G1 (upd H1 D (.lst [])) := by
  refine ⟨⟨fun a o e => by rw [upd_ne (ne_of_none e (I.noG hD))]; exact I.ex a o e, fun p m e => ?_⟩, .refl _, fun a o _ e => by rw [upd_ne (ne_of_none e hD)]; exact e, fun a h _ => h, fun a h _ _ => h, I.no hD, I.noG hD, [], upd_same, .nil⟩
  obtain ⟨h1, u, h2, h3⟩ := I.ob p m e
  exact ⟨h1, u, by rw [upd_ne (ne_of_none h2 hD)]; exact h2, h3⟩
theorem Bs.step (h0 : H1 D = none) (b : Bs K M1 G1 H1 D acc M' G' H') (s : Stp K M' G' H' M2 G2 H2) : Bs K M1 G1 H1 D acc M2 G2 H2 := by
  obtain ⟨I', g', fr', mn', gn', mD, gD, us, hDl, da⟩ := b
  have e2 := s.fr D _ mD hDl
  refine ⟨s.inn, g'.trans s.gg, fun a o hm hh => s.fr a o (mn' a hm (by rw [hh]; exact fun z => by cases z)) (fr' a o hm hh), fun a hm hh => ?_, fun a hg hm hh => ?_, s.mnew D mD (by rw [hDl]; exact fun z => by cases z), s.gnew D gD mD (by rw [hDl]; exact fun z => by cases z), us, e2, DvAll.mono s.gg da⟩
  · cases q1 : H1 a with
    | none => exact absurd q1 hh
    | some o => exact s.mnew a (mn' a hm hh) (by rw [fr' a o hm q1]; exact fun z => by cases z)
  · cases q1 : H1 a with
    | none => exact absurd q1 hh
    | some o => exact s.gnew a (gn' a hg hm hh) (mn' a hm hh) (by rw [fr' a o hm q1]; exact fun z => by cases z)
theorem Bs.app (h0 : H1 D = none) (b : Bs K M1 G1 H1 D acc M' G' H') {v : V} {y : Ds} (d : Dv K G' v y) : ∃ us, H' D = some (.lst us) ∧ us.length = acc.length ∧ Bs K M1 G1 H1 D (acc ++ [y]) M' G' (upd H' D (.lst (us ++ [v]))) := by
  obtain ⟨I', g', fr', mn', gn', mD, gD, us, hDl, da⟩ := b
  refine ⟨us, hDl, da.length, ⟨fun a o e => by rw [upd_ne (ne_of_none e gD)]; exact I'.ex a o e, fun p m e => ?_⟩, g', fun a o hm hh => by rw [upd_ne (ne_of_none hh h0)]; exact fr' a o hm hh, mn', gn', mD, gD, us ++ [v], upd_same, Paired.app da (.cons d .nil)⟩
  obtain ⟨h1, u, h2, h3⟩ := I'.ob p m e
  exact ⟨h1, u, by rw [upd_ne (MH.ne e mD)]; exact h2, h3⟩
theorem Bs.fin {M : MH} {G H : Hp} (h0 : H1 D = none) (s1 : Stp K M G H M1 G1 H1) (b : Bs K M1 G1 H1 D acc M' G' H') {Φ : Ds → MH → Prop} {Q : VK} (f : (∃ es, acc = dats es ∧ Φ (.dat (.list es)) M') ∨ ∀ D, M' D = none → Φ (.adr D) (M'.up D (.lst acc)))
    (q : ∀ v x M' G' H', Stp K M G H M' G' H' → Dv K G' v x → Φ x M' → Q v H') : Q (.ref D) H' := by
  obtain ⟨I', g', fr', mn', gn', mD, gD, us, hDl, da⟩ := b
  rcases f with ⟨es, rfl, k⟩ | k
  · have gg : Same G' (upd G' D (.lst us)) := fun b u e => by rw [upd_ne (ne_of_none e gD)]; exact e
    refine q _ (.dat (.list es)) M' (upd G' D (.lst us)) H' (s1.trans ⟨g'.trans gg, fr', ⟨fun b u e => ?_, fun p m e => ?_⟩, mn', fun a hg hm hh => ?_⟩) (Da.lst upd_same (DaAll.mono gg da.da)) k
    · by_cases z : b = D
      · subst z; rw [upd_same] at e; rw [hDl]; exact e
      · rw [upd_ne z] at e; exact I'.ex b u e
    · obtain ⟨h1, u, h2, h3⟩ := I'.ob p m e
      exact ⟨by rw [upd_ne (MH.ne e mD)]; exact h1, u, h2, h3.mono gg⟩
    · rw [upd_ne (fun z => by subst z; exact hh h0)]
      exact gn' a hg hm hh
  · refine q _ (.adr D) (M'.up D (.lst acc)) G' H' (s1.trans ⟨g', fr', ⟨I'.ex, fun p m e => ?_⟩, fun a hm hh => ?_, gn'⟩) rfl (k D mD)
    · by_cases z : p = D
      · subst z; rw [MH.up_same] at e; cases e
        exact ⟨gD, _, hDl, da⟩
      · rw [MH.up_ne z] at e; exact I'.ob p m e
    · rw [MH.up_ne (fun z => by subst z; exact hh h0)]
      exact mn' a hm hh
end
/-- the inner clause of a comprehension of two -/
structure Lc1I (K : PySem.W.Frag) (g : TG) (tt : TT) (te : TE) (Ψ : List Ds → MH → Prop) (ds : DS) (acc0 : List Ds) (n : Nat) (Gd : MH → Prop) (Y : Nat → Ds → MH → MH → Prop) (M : MH) (vs : List Nat) (Iv : Nat → List Ds → MH → Prop) : Prop where
  beg : Iv 0 acc0 M
  gd : ∀ i acc M', i ≤ n → Iv i acc M' → Gd M'
  len : ∀ i acc M', i ≤ n → Iv i acc M' → acc.length < 100000
  turn : ∀ i x acc M' M2, i < n → Iv i acc M' → Y i x M' M2 → Xg K g vs x (wipeD ds vs) M2 fun ds2 M3 => Xt K tt ds2 M3 fun b M4 => (b = true → Xp K te ds2 M4 fun y M5 => Iv (i + 1) (acc ++ [y]) M5) ∧ (b = false → Iv (i + 1) acc M4)
  fin : ∀ acc M', Iv n acc M' → Ψ acc M'
structure Lc2I (K : PySem.W.Frag) (g : TG) (tt : TT) (wi1 : TI) (g1 : TG) (tt1 : TT) (te : TE) (Φ : Ds → MH → Prop) (ds : DS) (n : Nat) (Gd : MH → Prop) (Y : Nat → Ds → MH → MH → Prop) (M : MH) (vs vs1 : List Nat) (Iv : Nat → List Ds → MH → Prop) : Prop where
  beg : Iv 0 [] M
  gd : ∀ i acc M', i ≤ n → Iv i acc M' → Gd M'
  turn : ∀ i x acc M' M2, i < n → Iv i acc M' → Y i x M' M2 → Xg K g vs x (wipeD ds vs) M2 fun ds2 M3 => Xt K tt ds2 M3 fun b M4 => (b = true → Xi K wi1 ds2 M4 fun n1 Gd1 Y1 M5 => ∃ Jv, Lc1I K g1 tt1 te (Iv (i + 1)) ds2 acc n1 Gd1 Y1 M5 vs1 Jv) ∧ (b = false → Iv (i + 1) acc M4)
  fin : ∀ acc M', Iv n acc M' → (∃ es, acc = dats es ∧ Φ (.dat (.list es)) M') ∨ ∀ D, M' D = none → Φ (.adr D) (M'.up D (.lst acc))
theorem xp_lc2 {ds : DS} {M : MH} {Φ : Ds → MH → Prop} {wi wi1 : TI} {g g1 : TG} {tt tt1 : TT} {te : TE} {vs vs1 : List Nat} (h : Xi K wi ds M fun n Gd Y M1 => ∃ Iv, Lc2I K g tt wi1 g1 tt1 te Φ ds n Gd Y M1 vs vs1 Iv) : Xp K (tLc2 wi g tt wi1 g1 tt1 te vs vs1) ds M Φ := fun σ G H sd I Q q =>
  h σ G H sd I _ fun J n Gd Y M1 G1 H1 s1 wk ⟨Iv, f⟩ D hD => by
    have sdw := (sd.mono s1.gg).wipe vs
    let Wf : Nat → Hp → Prop := fun i H' => ∃ acc M' G', Bs K M1 G1 H1 D acc M' G' H' ∧ Iv i acc M'
    refine ⟨fun i m H' => m = n - i ∧ i ≤ n ∧ Wf i H', ⟨n, by omega, Nat.zero_le _, [], M1, G1, Bs.beg s1.inn hD, f.beg⟩, ?_⟩
    rintro i m H' ⟨rfl, hi, acc, M', G', b, iv⟩
    have gd := f.gd i acc M' hi iv
    by_cases hlt : i < n
    · refine .inr ⟨wk.goes i M' G' H' hlt b.gg b.inn gd, Wf (i + 1), fun H2 w2 => ⟨n - (i + 1), by omega, rfl, hlt, w2⟩, fun v H2 y => ?_⟩
      obtain ⟨x, M2, G2, s2, d2, hy⟩ := wk.yields i M' G' H' v H2 hlt b.gg b.inn gd y
      refine f.turn i x acc M' M2 hlt iv hy (L2.wipe σ vs) G2 H2 v (sdw.mono (b.gg.trans s2.gg)) s2.inn d2 _ fun σ3 ds3 M3 G3 H3 ag sd3 s3 ht => ?_
      refine ⟨ag.wipe_eq, ht σ3 G3 H3 sd3 s3.inn _ fun bb M4 G4 H4 s4 ⟨hT, hF⟩ => ?_⟩
      have sT := (s2.trans s3).trans s4
      have b4 := b.step hD sT
      have sd4 := sd3.mono s4.gg
      cases bb with
      | true =>
        rw [if_pos rfl]
        refine hT rfl σ3 G4 H4 sd4 s4.inn _ fun J1 n1 Gd1 Y1 M5 G5 H5 s5 wk1 ⟨Jv, f1⟩ => ?_
        have b5 := b4.step hD s5
        have sdw1 := (sd4.mono s5.gg).wipe vs1
        refine ⟨fun j m H' => m = n1 - j ∧ j ≤ n1 ∧ ∃ acc M' G', Bs K M1 G1 H1 D acc M' G' H' ∧ Same G5 G' ∧ Jv j acc M', ⟨n1, by omega, Nat.zero_le _, acc, M5, G5, b5, .refl _, f1.beg⟩, ?_⟩
        rintro j m H' ⟨rfl, hj, acc1, M6, G6, b6, g6, jv⟩
        have gd1 := f1.gd j acc1 M6 hj jv
        by_cases hlt1 : j < n1
        · refine .inr ⟨wk1.goes j M6 G6 H' hlt1 g6 b6.inn gd1, fun H2 => ∃ acc M' G', Bs K M1 G1 H1 D acc M' G' H2 ∧ Same G5 G' ∧ Jv (j + 1) acc M', fun H2 w2 => ⟨n1 - (j + 1), by omega, rfl, hlt1, w2⟩, fun v1 H7 y1 => ?_⟩
          obtain ⟨x1, M7, G7, s7, d7, hy1⟩ := wk1.yields j M6 G6 H' v1 H7 hlt1 g6 b6.inn gd1 y1
          refine f1.turn j x1 acc1 M6 M7 hlt1 jv hy1 (L2.wipe σ3 vs1) G7 H7 v1 (sdw1.mono (g6.trans s7.gg)) s7.inn d7 _ fun σ8 ds8 M8 G8 H8 ag8 sd8 s8 ht8 => ?_
          refine ⟨ag8.wipe_eq, ht8 σ8 G8 H8 sd8 s8.inn _ fun b9 M9 G9 H9 s9 ⟨hT9, hF9⟩ => ?_⟩
          have s79 := (s7.trans s8).trans s9
          cases b9 with
          | true =>
            rw [if_pos rfl]
            refine hT9 rfl σ8 G9 H9 (sd8.mono s9.gg) s9.inn _ fun v10 y10 M10 G10 H10 s10 d10 jv10 => ?_
            have s710 := s79.trans s10
            obtain ⟨us, e1, e2, b11⟩ := (b6.step hD s710).app hD d10
            have hl := f1.len j acc1 M6 hj jv
            exact ⟨us, e1, sz_lt (by omega), acc1 ++ [y10], M10, G10, b11, g6.trans s710.gg, jv10⟩
          | false =>
            rw [if_neg Bool.false_ne_true]
            exact ⟨acc1, M9, G9, b6.step hD s79, g6.trans s79.gg, hF9 rfl⟩
        · have e' : j = n1 := by omega
          subst e'
          exact .inl ⟨wk1.stops M6 G6 H' g6 b6.inn gd1, acc1, M6, G6, b6, f1.fin acc1 M6 jv⟩
      | false =>
        rw [if_neg Bool.false_ne_true]
        exact ⟨acc, M4, G4, b4, hF rfl⟩
    · have e' : i = n := by omega
      subst e'
      exact .inl ⟨wk.stops M' G' H' b.gg b.inn gd, b.fin hD s1 (f.fin acc M' iv) q⟩
/-! ### walkers -/
section
variable {ds : DS} {M : MH} {te : TE} {ar : TA} {Φ : Nat → (MH → Prop) → (Nat → Ds → MH → MH → Prop) → MH → Prop}
theorem wk_data {G0 : Hp} {a : Addr} {us : List V} {es : List PyData} (e : G0 a = some (.lst us)) (h : DaAll G0 us es) : Wk K (Itl K a) es.length (fun _ => True) (YI (dats es)) G0 where
  goes := fun i M G H hi g I _ => by
    have hl := h.length
    exact ⟨us, us[i]'(by omega), SqL.of (I.ex _ _ (g _ _ e)), by simp [show i < us.length by omega]⟩
  stops := fun M G H g I _ => ⟨us, SqL.of (I.ex _ _ (g _ _ e)), by have := h.length; omega⟩
  yields := fun i M G H v H' hi g I _ y => by
    obtain ⟨rfl, y⟩ := y
    have y1 := y us (SqL.of (I.ex _ _ (g _ _ e)))
    obtain ⟨x, h1, h2⟩ := Paired.at1 (DaAll.dv (K := K) (DaAll.mono g h)) y1
    exact ⟨x, M, G, .refl I, h2, h1, rfl⟩
/-- over a list of data -/
theorem xi_list (h : Xp K te ds M fun x M1 => ∃ es, x = .dat (.list es) ∧ Φ es.length (fun _ => True) (YI (dats es)) M1) : Xi K (iList K te) ds M Φ := fun σ G H sd I R q =>
  h σ G H sd I _ fun v x M1 G1 H1 s1 d1 ⟨es, e, k⟩ => by
    subst e
    cases d1 with
    | lst ha hd => exact ⟨_, rfl, ⟨_, SqL.of (s1.inn.ex _ _ ha)⟩, q _ _ _ _ M1 G1 H1 s1 (wk_data ha hd) k⟩
/-- over a list that may change (but doesn't while it is walked) -/
theorem xi_listM (h : Xp K te ds M fun x M1 => ∃ p xs, x = .adr p ∧ M1 p = some (.lst xs) ∧ Φ xs.length (fun M' => M' p = some (.lst xs)) (YI xs) M1) : Xi K (iList K te) ds M Φ := fun σ G H sd I R q =>
  h σ G H sd I _ fun v x M1 G1 H1 s1 d1 ⟨p, xs, e, hp, k⟩ => by
    subst e
    cases d1
    obtain ⟨_, o, eo, m⟩ := s1.inn.ob p _ hp
    obtain ⟨us, rfl, hv⟩ := m.lst
    refine ⟨p, rfl, ⟨_, SqL.of eo⟩, q _ _ _ _ M1 G1 H1 s1 ⟨fun i M G H hi g I gd => ?_, fun M G H g I gd => ?_, fun i M G H v H' hi g I gd y => ?_⟩ k⟩
    · obtain ⟨_, o, eo, m⟩ := I.ob p _ gd
      obtain ⟨us, rfl, hv⟩ := m.lst
      have := hv.length
      exact ⟨us, us[i]'(by omega), SqL.of eo, by simp [show i < us.length by omega]⟩
    · obtain ⟨_, o, eo, m⟩ := I.ob p _ gd
      obtain ⟨us, rfl, hv⟩ := m.lst
      have := hv.length
      exact ⟨us, SqL.of eo, by omega⟩
    · obtain ⟨_, o, eo, m⟩ := I.ob p _ gd
      obtain ⟨us, rfl, hv⟩ := m.lst
      obtain ⟨rfl, y⟩ := y
      obtain ⟨x, h1, h2⟩ := Paired.at1 hv (y us (SqL.of eo))
      exact ⟨x, M, G, .refl I, h2, h1, rfl⟩
/-- over a tuple of data -/
theorem xi_tup (h : Xp K te ds M fun x M1 => ∃ es, x = .dat (.tuple es) ∧ Φ es.length (fun _ => True) (YI (dats es)) M1) : Xi K (iTup K te) ds M Φ := fun σ G H sd I R q =>
  h σ G H sd I _ fun v x M1 G1 H1 s1 d1 ⟨es, e, k⟩ => by
    subst e
    cases d1 with
    | tup ha hd =>
      refine ⟨_, rfl, ⟨_, SqT.of (s1.inn.ex _ _ ha)⟩, q _ _ _ _ M1 G1 H1 s1 ⟨fun i M G H hi g I gd => ?_, fun M G H g I gd => ?_, fun i M G H v H' hi g I gd y => ?_⟩ k⟩
      · rename_i us
        have := hd.length
        exact ⟨us, us[i]'(by omega), SqT.of (I.ex _ _ (g _ _ ha)), by simp [show i < us.length by omega]⟩
      · rename_i us
        have := hd.length
        exact ⟨us, SqT.of (I.ex _ _ (g _ _ ha)), by omega⟩
      · rename_i us
        obtain ⟨rfl, y⟩ := y
        obtain ⟨x, h1, h2⟩ := Paired.at1 (DaAll.dv (K := K) (DaAll.mono g hd)) (y us (SqT.of (I.ex _ _ (g _ _ ha))))
        exact ⟨x, M, G, .refl I, h2, h1, rfl⟩
def YR (lo : Int) : Nat → Ds → MH → MH → Prop := fun i x M M' => x = .dat (.int (lo + i)) ∧ M' = M
theorem wk_rng {lo : Int} {n : Nat} {G0 : Hp} : Wk K (Itr lo n) n (fun _ => True) (YR lo) G0 where
  goes := fun i M G H hi _ _ _ => hi
  stops := fun _ _ _ _ _ _ => Nat.le_refl _
  yields := fun i M G H v H' hi g I _ y => by
    obtain ⟨rfl, rfl⟩ := y
    exact ⟨.dat (.int (lo + i)), M, G, .refl I, Da.int _, rfl, rfl⟩
theorem xi_rng1 (h : Xa K ar ds M fun xs M1 => ∃ n : Int, xs = [.dat (.int n)] ∧ -100000 ≤ n ∧ n ≤ 100000 ∧ Φ n.toNat (fun _ => True) (YR 0) M1) : Xi K (iRng1 ar) ds M Φ := fun σ G H sd I R q =>
  h σ G H sd I _ fun v x M1 G1 H1 s1 d1 ⟨n, e, hl, hn, k⟩ => by
    subst e
    cases d1 with
    | cons d1 d2 => cases d1; cases d2; exact ⟨n, rfl, by omega, by omega, q _ _ _ _ M1 G1 H1 s1 wk_rng k⟩
theorem xi_rng2 (h : Xa K ar ds M fun xs M1 => ∃ m n : Int, xs = [.dat (.int m), .dat (.int n)] ∧ -100000 ≤ m ∧ m ≤ 100000 ∧ -100000 ≤ n ∧ n ≤ 100000 ∧ Φ (n - m).toNat (fun _ => True) (YR m) M1) : Xi K (iRng2 ar) ds M Φ := fun σ G H sd I R q =>
  h σ G H sd I _ fun v x M1 G1 H1 s1 d1 ⟨m, n, e, h1, h2, h3, h4, k⟩ => by
    subst e
    cases d1 with
    | cons d1 d2 =>
      cases d2 with
      | cons d2 d3 => cases d1; cases d2; cases d3; exact ⟨m, n, rfl, ⟨by omega, by omega, by omega, by omega⟩, q _ _ _ _ M1 G1 H1 s1 wk_rng k⟩
/-- enumerate, zip of data: new pairs -/
def YE (es : List PyData) : Nat → Ds → MH → MH → Prop := fun i x M M' => (∃ d, es[i]? = some d ∧ x = .dat (.tuple [.int i, d])) ∧ M' = M
theorem xi_enum (h : Xa K ar ds M fun xs M1 => ∃ es, xs = [.dat (.list es)] ∧ Φ es.length (fun _ => True) (YE es) M1) : Xi K (iEnum K ar) ds M Φ := fun σ G H sd I R q =>
  h σ G H sd I _ fun v x M1 G1 H1 s1 d1 ⟨es, e, k⟩ => by
    subst e
    cases d1 with
    | cons d1 d2 =>
      cases d2
      cases d1 with
      | lst ha hd =>
        rename_i a us
        refine ⟨_, us, rfl, SqL.of (s1.inn.ex _ _ ha), q _ _ _ _ M1 G1 H1 s1 ⟨fun i M G H hi g I gd => ?_, fun M G H g I gd => ?_, fun i M G H v H' hi g I gd y => ?_⟩ k⟩
        · have := hd.length
          exact ⟨us, us[i]'(by omega), SqL.of (I.ex _ _ (g _ _ ha)), by simp [show i < us.length by omega]⟩
        · have := hd.length
          exact ⟨us, SqL.of (I.ex _ _ (g _ _ ha)), by omega⟩
        · obtain ⟨T, x, rfl, hT, rfl, y⟩ := y
          obtain ⟨z, h1, h2⟩ := Paired.at1 (DaAll.dv (K := K) (DaAll.mono g hd)) (y us (SqL.of (I.ex _ _ (g _ _ ha))))
          rw [List.getElem?_map] at h1
          cases e : es[i]? with
          | none => rw [e] at h1; cases h1
          | some d =>
            rw [e] at h1; cases h1
            have s := Stp.newD I (o := .tup [.int (i : Nat), x]) hT
            exact ⟨.dat (.tuple [.int i, d]), M, _, s, Da.tup upd_same (.cons (.int _) (.cons (Da.mono s.gg h2) .nil)), ⟨d, e, rfl⟩, rfl⟩
/-- enumerate of a list that may change: pairs that may hold what changes -/
def YEM (xs : List Ds) : Nat → Ds → MH → MH → Prop := fun i x M M' => ∃ y T, xs[i]? = some y ∧ M T = none ∧ x = .adr T ∧ M' = M.up T (.tup [.dat (.int i), y])
theorem xi_enumM (h : Xa K ar ds M fun xs M1 => ∃ p es, xs = [.adr p] ∧ M1 p = some (.lst es) ∧ Φ es.length (fun M' => M' p = some (.lst es)) (YEM es) M1) : Xi K (iEnum K ar) ds M Φ := fun σ G H sd I R q =>
  h σ G H sd I _ fun v x M1 G1 H1 s1 d1 ⟨p, es, e, hp, k⟩ => by
    subst e
    cases d1 with
    | cons d1 d2 =>
      cases d2
      cases d1
      obtain ⟨_, o, eo, m⟩ := s1.inn.ob p _ hp
      obtain ⟨us, rfl, hv⟩ := m.lst
      refine ⟨_, us, rfl, SqL.of eo, q _ _ _ _ M1 G1 H1 s1 ⟨fun i M G H hi g I gd => ?_, fun M G H g I gd => ?_, fun i M G H v H' hi g I gd y => ?_⟩ k⟩
      · obtain ⟨_, o, eo, m⟩ := I.ob p _ gd
        obtain ⟨us, rfl, hv⟩ := m.lst
        have := hv.length
        exact ⟨us, us[i]'(by omega), SqL.of eo, by simp [show i < us.length by omega]⟩
      · obtain ⟨_, o, eo, m⟩ := I.ob p _ gd
        obtain ⟨us, rfl, hv⟩ := m.lst
        have := hv.length
        exact ⟨us, SqL.of eo, by omega⟩
      · obtain ⟨_, o, eo, m⟩ := I.ob p _ gd
        obtain ⟨us, rfl, hv⟩ := m.lst
        obtain ⟨T, x, rfl, hT, rfl, y⟩ := y
        obtain ⟨z, h1, h2⟩ := Paired.at1 hv (y us (SqL.of eo))
        have hm : MOk K G (.tup [.int (i : Nat), x]) (.tup [.dat (.int i), z]) := .cons (Da.int _) (.cons h2 .nil)
        have s := Stp.newM I (o := .tup [.int (i : Nat), x]) hT hm
        exact ⟨.adr T, _, _, s, rfl, z, T, h1, I.no hT, rfl, rfl⟩
def YZ (es fs : List PyData) : Nat → Ds → MH → MH → Prop := fun i x M M' => (∃ d f, es[i]? = some d ∧ fs[i]? = some f ∧ x = .dat (.tuple [d, f])) ∧ M' = M
theorem xi_zip (h : Xa K ar ds M fun xs M1 => ∃ es fs, xs = [.dat (.list es), .dat (.list fs)] ∧ es.length = fs.length ∧ Φ es.length (fun _ => True) (YZ es fs) M1) : Xi K (iZip K ar) ds M Φ := fun σ G H sd I R q =>
  h σ G H sd I _ fun v x M1 G1 H1 s1 d1 ⟨es, fs, e, hl, k⟩ => by
    subst e
    cases d1 with
    | cons d1 d2 =>
      cases d2 with
      | cons d2 d3 =>
        cases d3
        cases d1 with
        | lst ha hd =>
          cases d2 with
          | lst hb hf =>
            rename_i a us b ws
            have l1 := hd.length
            have l2 := hf.length
            refine ⟨_, _, us, ws, rfl, SqL.of (s1.inn.ex _ _ ha), SqL.of (s1.inn.ex _ _ hb), q _ _ _ _ M1 G1 H1 s1 ⟨fun i M G H hi g I gd => ?_, fun M G H g I gd => ?_, fun i M G H v H' hi g I gd y => ?_⟩ k⟩
            · exact ⟨us, ws, us[i]'(by omega), ws[i]'(by omega), SqL.of (I.ex _ _ (g _ _ ha)), SqL.of (I.ex _ _ (g _ _ hb)), by simp [show i < us.length by omega], by simp [show i < ws.length by omega]⟩
            · exact ⟨us, ws, SqL.of (I.ex _ _ (g _ _ ha)), SqL.of (I.ex _ _ (g _ _ hb)), by omega⟩
            · obtain ⟨T, x, z, rfl, hT, rfl, y1, y2⟩ := y
              obtain ⟨z1, h1, h2⟩ := Paired.at1 (DaAll.dv (K := K) (DaAll.mono g hd)) (y1 us (SqL.of (I.ex _ _ (g _ _ ha))))
              obtain ⟨z2, h3, h4⟩ := Paired.at1 (DaAll.dv (K := K) (DaAll.mono g hf)) (y2 ws (SqL.of (I.ex _ _ (g _ _ hb))))
              rw [List.getElem?_map] at h1 h3
              cases e : es[i]? with
              | none => rw [e] at h1; cases h1
              | some d =>
                rw [e] at h1; cases h1
                cases e3 : fs[i]? with
                | none => rw [e3] at h3; cases h3
                | some f =>
                  rw [e3] at h3; cases h3
                  have s := Stp.newD I (o := .tup [x, z]) hT
                  exact ⟨.dat (.tuple [d, f]), M, _, s, Da.tup upd_same (.cons (Da.mono s.gg h2) (.cons (Da.mono s.gg h4) .nil)), ⟨d, f, e, e3, rfl⟩, rfl⟩
end
end K62
end
section
set_option Elab.async false
set_option linter.all false
set_option maxRecDepth 100000
set_option maxHeartbeats 4000000
set_option autoImplicit false
namespace K62
open PySem L2
variable {K : PySem.W.Frag}
/-! ### shapes that may be compared -/
def shD (k : Nat) (d : PyData) : Prop := d.canLay0 = true ∧ d.depth ≤ k
theorem shD.ok {k : Nat} {d : PyData} (h : shD k d) (hk : k ≤ 64) : SeqAt.shaped d = true := by
  unfold SeqAt.shaped
  rw [h.1, Bool.true_and]
  exact decide_eq_true (Nat.le_trans h.2 hk)
theorem shD.mono {k k' : Nat} {d : PyData} (h : shD k d) (hk : k ≤ k') : shD k' d := ⟨h.1, Nat.le_trans h.2 hk⟩
theorem shD.int (k : Nat) (i : Int) : shD k (.int i) := ⟨rfl, Nat.zero_le _⟩
theorem shD.bool (k : Nat) (i : Bool) : shD k (.bool i) := ⟨rfl, Nat.zero_le _⟩
theorem shD.none (k : Nat) : shD k .none := ⟨rfl, Nat.zero_le _⟩
theorem shD.str (k : Nat) {x : Str} (h : (PyData.str x).canLay0 = true) : shD k (.str x) := ⟨h, Nat.zero_le _⟩
theorem shD.all {k : Nat} : ∀ {ds : List PyData}, (∀ d ∈ ds, shD k d) → PyData.canLayAll0 ds = true ∧ PyData.depthAll ds ≤ k
  | [], _ => ⟨rfl, Nat.zero_le _⟩
  | d :: ds, h => by
    obtain ⟨h1, h2⟩ := shD.all (ds := ds) fun x hx => h x (List.mem_cons_of_mem _ hx)
    obtain ⟨h3, h4⟩ := h d (List.mem_cons_self ..)
    refine ⟨?_, ?_⟩
    · show (d.canLay0 && PyData.canLayAll0 ds) = true
      rw [h3, h1]; rfl
    · show max d.depth (PyData.depthAll ds) ≤ k
      omega
theorem shD.list {k : Nat} {ds : List PyData} (h : ∀ d ∈ ds, shD k d) : shD (k + 1) (.list ds) := ⟨(shD.all h).1, Nat.succ_le_succ (shD.all h).2⟩
theorem shD.tup {k : Nat} {ds : List PyData} (h : ∀ d ∈ ds, shD k d) : shD (k + 1) (.tuple ds) := ⟨(shD.all h).1, Nat.succ_le_succ (shD.all h).2⟩
theorem shD.nil (k : Nat) : shD (k + 1) (.list []) := shD.list fun d h => by cases h
theorem shD.nums (k : Nat) (ns : List Int) : shD (k + 1) (.list (nums ns)) := shD.list fun d h => by
  obtain ⟨n, _, rfl⟩ := List.mem_map.mp h
  exact shD.int k n
/-- data, or a list of data that changes -/
inductive Rep (M : MH) : Ds → PyData → Prop
  | dat (d : PyData) : Rep M (.dat d) d
  | lst {p : Addr} {es : List PyData} : M p = some (.lst (dats es)) → Rep M (.adr p) (.list es)
theorem Rep.dp {M : MH} {G H : Hp} {v : V} {x : Ds} {d : PyData} (I : Inn K G M H) (h : Dv K G v x) (r : Rep M x d) : Dp K H v d := by
  cases r with
  | dat d => exact Da.dp (Da.mono I.ex h)
  | lst hp =>
    cases h
    obtain ⟨_, o, e, m⟩ := I.ob _ _ hp
    obtain ⟨us, rfl, hv⟩ := m.lst
    exact .lst (SqL.of e) (DaAll.dp (DaAll.mono I.ex hv.da))
section
variable {M : MH} {Φ : Ds → MH → Prop}
theorem xo_mono {r : R2} {x y : Ds} {Φ' : Ds → MH → Prop} (h : Xo K r x y M Φ') (k : ∀ x M', Φ' x M' → Φ x M') : Xo K r x y M Φ := fun G H u w I d1 d2 Q q => h G H u w I d1 d2 Q fun v z M' G' H' s d p => q v z M' G' H' s d (k z M' p)
/-! ### ints -/
theorem xo_i0 {f : Int → Int → Int} {i j : Int} (k : Φ (.dat (.int (f i j))) M) : Xo K (rI0 fun i j => .int (f i j)) (.dat (.int i)) (.dat (.int j)) M Φ := fun G H u w I d1 d2 Q q => by
  cases d1; cases d2
  exact ⟨i, j, rfl, rfl, q _ (.dat (.int (f i j))) M G H (.refl I) (Da.int _) k⟩
theorem xo_b0 {f : Int → Int → Bool} {i j : Int} (k : Φ (.dat (.bool (f i j))) M) : Xo K (rI0 fun i j => .bl (f i j)) (.dat (.int i)) (.dat (.int j)) M Φ := fun G H u w I d1 d2 Q q => by
  cases d1; cases d2
  exact ⟨i, j, rfl, rfl, q _ (.dat (.bool (f i j))) M G H (.refl I) (Da.bl _) k⟩
theorem xo_iC {C : Int → Int → Prop} {f : Int → Int → Int} {i j : Int} (hc : C i j) (k : Φ (.dat (.int (f i j))) M) : Xo K (rI C fun i j => .int (f i j)) (.dat (.int i)) (.dat (.int j)) M Φ := fun G H u w I d1 d2 Q q => by
  cases d1; cases d2
  exact ⟨i, j, rfl, rfl, hc, q _ (.dat (.int (f i j))) M G H (.refl I) (Da.int _) k⟩
theorem xu_neg {i : Int} (k : Φ (.dat (.int (-i))) M) : Xu K (rU fun i => .int (-i)) (.dat (.int i)) M Φ := fun G H u I d1 Q q => by
  cases d1
  exact ⟨i, rfl, q _ (.dat (.int (-i))) M G H (.refl I) (Da.int _) k⟩
/-! ### == and in -/
theorem xo_eqD {x y : Ds} {d e : PyData} (r1 : Rep M x d) (r2 : Rep M y e) (h1 : shD 64 d) (h2 : shD 64 e) (k : Φ (.dat (.bool (PyData.eqv d e))) M) : Xo K (rEqD K) x y M Φ := fun G H u w I d1 d2 Q q =>
  ⟨d, e, r1.dp I d1, r2.dp I d2, h1.ok (Nat.le_refl _), h2.ok (Nat.le_refl _), q _ (.dat (.bool (PyData.eqv d e))) M G H (.refl I) (Da.bl _) k⟩
theorem xo_neD {x y : Ds} {d e : PyData} (r1 : Rep M x d) (r2 : Rep M y e) (h1 : shD 64 d) (h2 : shD 64 e) (k : Φ (.dat (.bool (!PyData.eqv d e))) M) : Xo K (rNeD K) x y M Φ := fun G H u w I d1 d2 Q q =>
  ⟨d, e, r1.dp I d1, r2.dp I d2, h1.ok (Nat.le_refl _), h2.ok (Nat.le_refl _), q _ (.dat (.bool (!PyData.eqv d e))) M G H (.refl I) (Da.bl _) k⟩
theorem xo_inD {x y : Ds} {d : PyData} {es : List PyData} (r1 : Rep M x d) (r2 : Rep M y (.list es)) (h1 : shD 64 d) (h2 : shD 64 (.list es)) (k : Φ (.dat (.bool (es.any fun z => PyData.eqv z d))) M) : Xo K (rInD K) x y M Φ := fun G H u w I d1 d2 Q q =>
  ⟨d, es, r1.dp I d1, r2.dp I d2, h1.ok (Nat.le_refl _), h2.ok (Nat.le_refl _), q _ (.dat (.bool (es.any fun z => PyData.eqv z d))) M G H (.refl I) (Da.bl _) k⟩
theorem xo_niD {x y : Ds} {d : PyData} {es : List PyData} (r1 : Rep M x d) (r2 : Rep M y (.list es)) (h1 : shD 64 d) (h2 : shD 64 (.list es)) (k : Φ (.dat (.bool (!es.any fun z => PyData.eqv z d))) M) : Xo K (rNotInD K) x y M Φ := fun G H u w I d1 d2 Q q =>
  ⟨d, es, r1.dp I d1, r2.dp I d2, h1.ok (Nat.le_refl _), h2.ok (Nat.le_refl _), q _ (.dat (.bool (!es.any fun z => PyData.eqv z d))) M G H (.refl I) (Da.bl _) k⟩
theorem flat_ints (ns : List Int) : (ns.map V.int).all flatV = true := by
  rw [List.all_map]
  exact List.all_eq_true.mpr fun x _ => rfl
/-- an int in a tuple of ints -/
theorem xo_inT {i : Int} {ns : List Int} (k : Φ (.dat (.bool (decide (i ∈ ns)))) M) : Xo K (rIn K false) (.dat (.int i)) (.dat (.tuple (nums ns))) M Φ := fun G H u w I d1 d2 Q q => by
  cases d1
  cases d2 with
  | tup ha hd =>
    have e := hd.ints_inv
    subst e
    refine ⟨_, _, rfl, .inr (SqT.of (I.ex _ _ ha)), rfl, flat_ints ns, ?_⟩
    have e2 : inV (.int i) (ns.map V.int) = decide (i ∈ ns) := by
      unfold inV
      rw [List.any_map]
      apply Bool.eq_iff_iff.mpr
      rw [List.any_eq_true, decide_eq_true_eq]
      constructor
      · rintro ⟨n, hn, e⟩
        have e' : (eqV (V.int n) (V.int i)) = true := e
        simp only [eqV] at e'
        have := of_decide_eq_true (by simpa using e' : decide (n = i) = true)
        exact this ▸ hn
      · intro hn
        exact ⟨i, hn, by simp [eqV]⟩
    show Q (.bl (if false = true then !inV (.int i) (ns.map V.int) else inV (.int i) (ns.map V.int))) H
    rw [if_neg Bool.false_ne_true, e2]
    exact q _ (.dat (.bool (decide (i ∈ ns)))) M G H (.refl I) (Da.bl _) k
/-! ### is None -/
theorem xo_isN {d : PyData} (b : Bool) (hb : b = true ↔ d = .none) (k : Φ (.dat (.bool b)) M) : Xo K (fun x y H Q => y = .non ∧ Q (.bl (decide (x = .non))) H) (.dat d) (.dat .none) M Φ := fun G H u w I d1 d2 Q q => by
  cases d2
  refine ⟨rfl, ?_⟩
  have e : decide (u = .non) = b := by
    apply Bool.eq_iff_iff.mpr
    rw [decide_eq_true_eq, hb]
    constructor
    · rintro rfl; cases d1; rfl
    · rintro rfl; cases d1; rfl
  rw [e]
  exact q _ (.dat (.bool b)) M G H (.refl I) (Da.bl _) k
theorem xo_notN {d : PyData} (b : Bool) (hb : b = true ↔ d ≠ .none) (k : Φ (.dat (.bool b)) M) : Xo K (fun x y H Q => y = .non ∧ Q (.bl (!decide (x = .non))) H) (.dat d) (.dat .none) M Φ := fun G H u w I d1 d2 Q q => by
  cases d2
  refine ⟨rfl, ?_⟩
  have e : (!decide (u = .non)) = b := by
    apply Bool.eq_iff_iff.mpr
    rw [Bool.not_eq_true', decide_eq_false_iff_not, hb]
    constructor
    · intro h z; subst z; cases d1; exact h rfl
    · intro h z; subst z; cases d1; exact h rfl
  rw [e]
  exact q _ (.dat (.bool b)) M G H (.refl I) (Da.bl _) k
/-! ### subscripts -/
theorem atI_pair {us : List V} {xs : List Ds} {G : Hp} {i : Int} {x : Ds} (h : DvAll K G us xs) (e : atI xs i = some x) : ∃ v, atI us i = some v ∧ Dv K G v x := by
  unfold atI at e ⊢
  rw [h.length]
  cases q : ixN xs.length i with
  | none => rw [q] at e; cases e
  | some j =>
    rw [q] at e
    obtain ⟨v, h1, h2⟩ := Paired.at h (show xs[j]? = some x from e)
    exact ⟨v, h1, h2⟩
theorem atI_dats {es : List PyData} {i : Int} {d : PyData} (e : atI es i = some d) : atI (dats es) i = some (.dat d) := by
  unfold atI at e ⊢
  rw [List.length_map]
  cases q : ixN es.length i with
  | none => rw [q] at e; cases e
  | some j =>
    rw [q] at e
    show (dats es)[j]? = _
    rw [List.getElem?_map, show es[j]? = some d from e]; rfl
theorem at_nat {α : Type} {xs : List α} {j : Nat} {x : α} (h : xs[j]? = some x) : atI xs (j : Int) = some x := atI_nat h
theorem xo_ixL {es : List PyData} {i : Int} {d : PyData} (e : atI es i = some d) (k : Φ (.dat d) M) : Xo K (rIx K) (.dat (.list es)) (.dat (.int i)) M Φ := fun G H u w I d1 d2 Q q => by
  cases d2
  cases d1 with
  | lst ha hd =>
    obtain ⟨v, h1, h2⟩ := atI_pair hd.dv (atI_dats e)
    exact .inl ⟨_, _, i, v, rfl, rfl, SqL.of (I.ex _ _ ha), h1, q v (.dat d) M G H (.refl I) h2 k⟩
theorem xo_ixT {es : List PyData} {i : Int} {d : PyData} (e : atI es i = some d) (k : Φ (.dat d) M) : Xo K (rIx K) (.dat (.tuple es)) (.dat (.int i)) M Φ := fun G H u w I d1 d2 Q q => by
  cases d2
  cases d1 with
  | tup ha hd =>
    obtain ⟨v, h1, h2⟩ := atI_pair hd.dv (atI_dats e)
    exact .inr (.inl ⟨_, _, i, v, rfl, rfl, SqT.of (I.ex _ _ ha), h1, q v (.dat d) M G H (.refl I) h2 k⟩)
theorem xo_ixM {p : Addr} {xs : List Ds} {i : Int} {x : Ds} (hp : M p = some (.lst xs)) (e : atI xs i = some x) (k : Φ x M) : Xo K (rIx K) (.adr p) (.dat (.int i)) M Φ := fun G H u w I d1 d2 Q q => by
  cases d2
  cases d1
  obtain ⟨_, o, eo, m⟩ := I.ob p _ hp
  obtain ⟨us, rfl, hv⟩ := m.lst
  obtain ⟨v, h1, h2⟩ := atI_pair hv e
  exact .inl ⟨_, _, i, v, rfl, rfl, SqL.of eo, h1, q v x M G H (.refl I) h2 k⟩
theorem xo_ixTM {p : Addr} {xs : List Ds} {i : Int} {x : Ds} (hp : M p = some (.tup xs)) (e : atI xs i = some x) (k : Φ x M) : Xo K (rIx K) (.adr p) (.dat (.int i)) M Φ := fun G H u w I d1 d2 Q q => by
  cases d2
  cases d1
  obtain ⟨_, o, eo, m⟩ := I.ob p _ hp
  obtain ⟨us, rfl, hv⟩ := m.tup
  obtain ⟨v, h1, h2⟩ := atI_pair hv e
  exact .inr (.inl ⟨_, _, i, v, rfl, rfl, SqT.of eo, h1, q v x M G H (.refl I) h2 k⟩)
theorem xo_ixS {ns : List Int} {i : Int} {n : Int} (e : atI ns i = some n) (k : Φ (.dat (.int n)) M) : Xo K (rIx K) (.sq ns) (.dat (.int i)) M Φ := fun G H u w I d1 d2 Q q => by
  cases d2
  obtain ⟨a, rfl, hs⟩ := d1
  have e' : atI (ns.map V.int) i = some (.int n) := by
    unfold atI at e ⊢
    rw [List.length_map]
    cases z : ixN ns.length i with
    | none => rw [z] at e; cases e
    | some j =>
      rw [z] at e
      show (ns.map V.int)[j]? = _
      rw [List.getElem?_map, show ns[j]? = some n from e]; rfl
  exact .inl ⟨a, _, i, .int n, rfl, rfl, I.ex.seq hs, e', q _ (.dat (.int n)) M G H (.refl I) (Da.int n) k⟩
/-! ### lists joined, repeated -/
theorem xo_cat {es fs : List PyData} (hl : es.length + fs.length ≤ 100000) (k : Φ (.dat (.list (es ++ fs))) M) : Xo K rCat (.dat (.list es)) (.dat (.list fs)) M Φ := fun G H u w I d1 d2 Q q => by
  cases d1 with
  | lst ha hd =>
    cases d2 with
    | lst hb hf =>
      rename_i us _ ws
      refine ⟨_, _, _, _, rfl, rfl, I.ex _ _ ha, I.ex _ _ hb, sz_ok (by rw [hd.length, hf.length]; exact hl), fun p hp => ?_⟩
      have s := Stp.newD I (o := .lst (us ++ ws)) hp
      exact q _ (.dat (.list (es ++ fs))) M _ _ s (Da.lst upd_same (DaAll.mono s.gg (hd.append hf))) k
theorem rep_flat {α : Type} : ∀ (n : Nat) (xs : List α), (List.replicate n xs).flatten.length = n * xs.length
  | 0, xs => by simp
  | n + 1, xs => by
    rw [List.replicate_succ, List.flatten_cons, List.length_append, rep_flat n xs, Nat.succ_mul]; omega
theorem sum_int_cast : True := trivial
/-! ### calls of built-ins -/
theorem xc_len {x : Ds} {es : List PyData} (r : Rep M x (.list es)) (k : Φ (.dat (.int es.length)) M) : Xc K (fun xs H Q => ∃ p ys, xs = [.ref p] ∧ (SqL K H p ys ∨ SqT K H p ys) ∧ Q (.int ys.length) H) [x] M Φ := fun G H us I d Q q => by
  cases d with
  | cons d1 d2 =>
    cases d2
    have dp := r.dp I d1
    cases dp with
    | lst hs ha =>
      have hl : ∀ {vs : List V} {ds : List PyData}, DpAll K H vs ds → vs.length = ds.length := by
        intro vs ds h
        induction ds generalizing vs with
        | nil => cases h; rfl
        | cons d ds ih => cases h with | cons _ h2 => exact congrArg (· + 1) (ih h2)
      refine ⟨_, _, rfl, .inl hs, ?_⟩
      rw [hl ha]
      exact q _ (.dat (.int es.length)) M G H (.refl I) (Da.int _) k
theorem xc_lenM {p : Addr} {xs : List Ds} (hp : M p = some (.lst xs)) (k : Φ (.dat (.int xs.length)) M) : Xc K (fun xs H Q => ∃ p ys, xs = [.ref p] ∧ (SqL K H p ys ∨ SqT K H p ys) ∧ Q (.int ys.length) H) [.adr p] M Φ := fun G H us I d Q q => by
  cases d with
  | cons d1 d2 =>
    cases d2; cases d1
    obtain ⟨_, o, eo, m⟩ := I.ob p _ hp
    obtain ⟨us, rfl, hv⟩ := m.lst
    refine ⟨_, _, rfl, .inl (SqL.of eo), ?_⟩
    rw [hv.length]
    exact q _ (.dat (.int xs.length)) M G H (.refl I) (Da.int _) k
theorem xc_lenS {ns : List Int} (k : Φ (.dat (.int ns.length)) M) : Xc K (fun xs H Q => ∃ p ys, xs = [.ref p] ∧ (SqL K H p ys ∨ SqT K H p ys) ∧ Q (.int ys.length) H) [.sq ns] M Φ := fun G H us I d Q q => by
  cases d with
  | cons d1 d2 =>
    cases d2
    obtain ⟨a, rfl, hs⟩ := d1
    refine ⟨_, _, rfl, .inl (I.ex.seq hs), ?_⟩
    rw [List.length_map]
    exact q _ (.dat (.int ns.length)) M G H (.refl I) (Da.int _) k
theorem xc_abs {i : Int} (k : Φ (.dat (.int (if i < 0 then -i else i))) M) : Xc K (fun xs H Q => ∃ i, xs = [.int i] ∧ Q (.int (if i < 0 then -i else i)) H) [.dat (.int i)] M Φ := fun G H us I d Q q => by
  cases d with
  | cons d1 d2 =>
    cases d2; cases d1
    exact ⟨i, rfl, q _ (.dat (.int (if i < 0 then -i else i))) M G H (.refl I) (Da.int _) k⟩
theorem xc_intB {b : Bool} (k : Φ (.dat (.int (if b then 1 else 0))) M) : Xc K (fun xs H Q => (∃ i, xs = [.int i] ∧ Q (.int i) H) ∨ ∃ k, xs = [.bl k] ∧ Q (.int (if k then 1 else 0)) H) [.dat (.bool b)] M Φ := fun G H us I d Q q => by
  cases d with
  | cons d1 d2 =>
    cases d2; cases d1
    exact .inr ⟨b, rfl, q _ (.dat (.int (if b then 1 else 0))) M G H (.refl I) (Da.int _) k⟩
theorem xc_sum {ns : List Int} (k : Φ (.dat (.int ns.sum)) M) : Xc K (rSum K) [.dat (.list (nums ns))] M Φ := fun G H us I d Q q => by
  cases d with
  | cons d1 d2 =>
    cases d2
    cases d1 with
    | lst ha hd =>
      have e := hd.ints_inv
      subst e
      exact ⟨_, ns, rfl, SqL.of (I.ex _ _ ha), q _ (.dat (.int ns.sum)) M G H (.refl I) (Da.int _) k⟩
theorem xc_max {ns : List Int} (h0 : 0 < ns.length) (k : ∀ m, m ∈ ns → (∀ y ∈ ns, y ≤ m) → Φ (.dat (.int m)) M) : Xc K (rMax K) [.dat (.list (nums ns))] M Φ := fun G H us I d Q q => by
  cases d with
  | cons d1 d2 =>
    cases d2
    cases d1 with
    | lst ha hd =>
      have e := hd.ints_inv
      subst e
      exact ⟨_, ns, rfl, SqL.of (I.ex _ _ ha), h0, fun m h1 h2 => q _ (.dat (.int m)) M G H (.refl I) (Da.int _) (k m h1 h2)⟩
theorem xc_min {ns : List Int} (h0 : 0 < ns.length) (k : ∀ m, m ∈ ns → (∀ y ∈ ns, m ≤ y) → Φ (.dat (.int m)) M) : Xc K (rMin K) [.dat (.list (nums ns))] M Φ := fun G H us I d Q q => by
  cases d with
  | cons d1 d2 =>
    cases d2
    cases d1 with
    | lst ha hd =>
      have e := hd.ints_inv
      subst e
      exact ⟨_, ns, rfl, SqL.of (I.ex _ _ ha), h0, fun m h1 h2 => q _ (.dat (.int m)) M G H (.refl I) (Da.int _) (k m h1 h2)⟩
theorem xc_all {bs : List Bool} (k : Φ (.dat (.bool (bs.all id))) M) : Xc K (rAll K) [.dat (.list (bs.map PyData.bool))] M Φ := fun G H us I d Q q => by
  cases d with
  | cons d1 d2 =>
    cases d2
    cases d1 with
    | lst ha hd =>
      have e := hd.bools_inv
      subst e
      exact ⟨_, bs, rfl, SqL.of (I.ex _ _ ha), q _ (.dat (.bool (bs.all id))) M G H (.refl I) (Da.bl _) k⟩
/-- list(xs): new data, or new and to change -/
theorem xc_list {es : List PyData} (k : Φ (.dat (.list es)) M) : Xc K (fun xs H Q => ∃ p ys, xs = [.ref p] ∧ (SqL K H p ys ∨ SqT K H p ys) ∧ ∀ l, H l = none → Q (.ref l) (upd H l (.lst ys))) [.dat (.list es)] M Φ := fun G H us I d Q q => by
  cases d with
  | cons d1 d2 =>
    cases d2
    cases d1 with
    | lst ha hd =>
      rename_i us
      refine ⟨_, _, rfl, .inl (SqL.of (I.ex _ _ ha)), fun l hl => ?_⟩
      have s := Stp.newD I (o := .lst us) hl
      exact q _ (.dat (.list es)) M _ _ s (Da.lst upd_same (DaAll.mono s.gg hd)) k
theorem xc_listM {es : List PyData} (k : ∀ l, M l = none → Φ (.adr l) (M.up l (.lst (dats es)))) : Xc K (fun xs H Q => ∃ p ys, xs = [.ref p] ∧ (SqL K H p ys ∨ SqT K H p ys) ∧ ∀ l, H l = none → Q (.ref l) (upd H l (.lst ys))) [.dat (.list es)] M Φ := fun G H us I d Q q => by
  cases d with
  | cons d1 d2 =>
    cases d2
    cases d1 with
    | lst ha hd =>
      refine ⟨_, _, rfl, .inl (SqL.of (I.ex _ _ ha)), fun l hl => ?_⟩
      have s := Stp.newM I (o := .lst _) (m := .lst (dats es)) hl hd.dv
      exact q _ (.adr l) _ _ _ s rfl (k l (I.no hl))
theorem xc_listMM {p : Addr} {xs : List Ds} (hp : M p = some (.lst xs)) (k : ∀ l, M l = none → Φ (.adr l) (M.up l (.lst xs))) : Xc K (fun xs H Q => ∃ p ys, xs = [.ref p] ∧ (SqL K H p ys ∨ SqT K H p ys) ∧ ∀ l, H l = none → Q (.ref l) (upd H l (.lst ys))) [.adr p] M Φ := fun G H us I d Q q => by
  cases d with
  | cons d1 d2 =>
    cases d2; cases d1
    obtain ⟨_, o, eo, m⟩ := I.ob p _ hp
    obtain ⟨us, rfl, hv⟩ := m.lst
    refine ⟨_, _, rfl, .inl (SqL.of eo), fun l hl => ?_⟩
    have s := Stp.newM I (o := .lst us) (m := .lst xs) hl hv
    exact q _ (.adr l) _ _ _ s rfl (k l (I.no hl))
/-- isinstance of data and a built-in class -/
theorem xc_isi {d : PyData} {n t : String} {b : Bool} (ht : match d with | .none => t = "NoneType" | .bool _ => t = "bool" | .int _ => t = "int" | .str _ => t = "str" | .list _ => t = "list" | .tuple _ => t = "tuple" | .dict _ => False) (hb : kitB t n = some b) (k : Φ (.dat (.bool b)) M) : Xc K (rIsi K) [.dat d, .ty n] M Φ := fun G H us I dd Q q => by
  cases dd with
  | cons d1 d2 =>
    cases d2 with
    | cons d2 d3 =>
      cases d3; cases d2
      refine ⟨_, _, .type t, _, b, rfl, .ty n, ?_, kit_ty hb, q _ (.dat (.bool b)) M G H (.refl I) (Da.bl _) k⟩
      cases d with
      | none => cases d1; subst ht; exact .base .non
      | bool x => cases d1; subst ht; exact .base (.bl x)
      | int x => cases d1; subst ht; exact .base (.int x)
      | str x => cases d1; subst ht; exact .base (.str x)
      | list x => cases d1 with | lst ha _ => subst ht; exact .base (.lst (I.ex _ _ ha))
      | tuple x => cases d1 with | tup ha _ => subst ht; exact .base (.tup (I.ex _ _ ha))
      | dict x => exact ht.elim
end
section
variable {ds : DS} {M : MH} {Φ : Ds → MH → Prop} {te tx : TE} {Δ : XE}
theorem xp_ty {n : String} (k : Φ (.ty n) M) : Xp K (tC (.ty n)) ds M Φ := fun σ G H sd I Q q => q _ (.ty n) M G H (.refl I) rfl k
/-- list(range(..)) -/
theorem xp_lstRg1 {ta : TE} (h : Xp K ta ds M fun x M1 => ∃ n : Nat, x = .dat (.int n) ∧ n ≤ 100000 ∧ Φ (.dat (.list (nums ((List.range n).map fun i => ((i : Nat) : Int))))) M1) : Xp K (tLstRg (tRg1 ta)) ds M Φ := fun σ G H sd I Q q =>
  h σ G H sd I _ fun u x M1 G1 H1 s1 d1 ⟨n, e, hn, k⟩ => by
    subst e; cases d1
    refine ⟨n, rfl, RgOk.of_le (by omega) (by omega) (by omega) (by omega), fun p hp => ?_⟩
    have s := Stp.newD s1.inn (o := .lst (rgV 0 n)) hp
    refine q _ (.dat (.list _)) M1 _ _ (s1.trans s) (Da.lst upd_same ?_) k
    have e : rgV 0 (n : Int) = ((List.range n).map fun i => ((i : Nat) : Int)).map V.int := by
      unfold rgV
      rw [List.map_map, show ((n : Int) - 0).toNat = n by omega]
      exact List.map_congr_left fun i _ => by show V.int (0 + (i : Int)) = V.int (i : Int); rw [Int.zero_add]
    rw [e]
    exact DaAll.ints _
theorem xp_lstRg2 {ta tb : TE} (h : Xp K ta ds M fun x M1 => Xp K tb ds M1 fun y M2 => ∃ a n : Nat, x = .dat (.int a) ∧ y = .dat (.int ((a : Int) + n)) ∧ a ≤ 100000 ∧ n ≤ 100000 ∧ Φ (.dat (.list (nums ((List.range n).map fun i => (a : Int) + (i : Nat))))) M2) : Xp K (tLstRg (tRg2 ta tb)) ds M Φ := fun σ G H sd I Q q =>
  h σ G H sd I _ fun u x M1 G1 H1 s1 d1 h1 => h1 σ G1 H1 (sd.mono s1.gg) s1.inn _ fun w y M2 G2 H2 s2 d2 ⟨a, n, ex, ey, ha, hn, k⟩ => by
    subst ex; subst ey; cases d1; cases d2
    refine ⟨_, _, rfl, rfl, RgOk.of_le (by omega) (by omega) (by omega) (by omega), fun p hp => ?_⟩
    have s := Stp.newD s2.inn (o := .lst (rgV a (a + n))) hp
    refine q _ (.dat (.list _)) M2 _ _ ((s1.trans s2).trans s) (Da.lst upd_same ?_) k
    have e : rgV (a : Int) ((a : Int) + n) = ((List.range n).map fun i => (a : Int) + (i : Nat)).map V.int := by
      unfold rgV
      rw [List.map_map, show ((a : Int) + n - a).toNat = n by omega]
      rfl
    rw [e]
    exact DaAll.ints _
/-! ### slices -/
def cutL {α : Type} (xs : List α) (lo hi : Option Int) : List α := (xs.drop (HT.sIx xs.length 0 lo)).take (HT.sIx xs.length xs.length hi - HT.sIx xs.length 0 lo)
theorem cut_pair {G : Hp} {us : List V} {xs : List Ds} (h : DvAll K G us xs) (lo hi : Option Int) : DvAll K G (cutV us lo hi) (cutL xs lo hi) := by
  unfold cutV cutL
  rw [h.length]
  exact Paired.takeP _ (Paired.dropP _ h)
theorem cut_map {α β : Type} (f : α → β) (xs : List α) (lo hi : Option Int) : cutL (xs.map f) lo hi = (cutL xs lo hi).map f := by
  unfold cutL
  rw [List.length_map, List.map_take, List.map_drop]
theorem cut_tail {α : Type} (xs : List α) : cutL xs (some 1) none = xs.drop 1 := by
  unfold cutL
  rw [show HT.sIx xs.length 0 (some 1) = min 1 xs.length from HT.sIx_nat xs.length 0 1, HT.sIx_none]
  cases xs with
  | nil => rfl
  | cons x r =>
    rw [show min 1 (x :: r).length = 1 by rw [List.length_cons]; omega]
    show (List.take ((x :: r).length - 1) r) = r
    rw [List.length_cons, Nat.add_sub_cancel]
    exact List.take_length
theorem cut_take {α : Type} (xs : List α) (n : Nat) : cutL xs none (some (n : Int)) = xs.take n := by
  unfold cutL
  rw [HT.sIx_none, HT.sIx_nat, List.drop_zero, Nat.sub_zero]
  by_cases h : n ≤ xs.length
  · rw [Nat.min_eq_left h]
  · rw [Nat.min_eq_right (by omega), List.take_length, List.take_of_length_le (by omega)]
theorem cut_mid {α : Type} (xs : List α) (a b : Nat) : ∃ c e, cutL xs (some (a : Int)) (some (b : Int)) = (xs.drop c).take e ∧ e ≤ b - a := by
  refine ⟨_, _, rfl, ?_⟩
  rw [HT.sIx_nat, HT.sIx_nat]
  omega
inductive Pt (K : PySem.W.Frag) : TO → DS → Option Int → Prop
  | no {ds : DS} : Pt K tNoPart ds none
  | c {ds : DS} (i : Int) : Pt K (tPart (tC (.int i))) ds (some i)
theorem xp_sl {tl th : TO} {lo hi : Option Int} (hl : Pt K tl ds lo) (hh : Pt K th ds hi) (h : Xp K te ds M fun x M1 => ∃ es, x = .dat (.list es) ∧ Φ (.dat (.list (cutL es lo hi))) M1) : Xp K (tSl (rSlL K) te tl th) ds M Φ := fun σ G H sd I Q q =>
  h σ G H sd I _ fun u x M1 G1 H1 s1 d1 ⟨es, e, k⟩ => by
    subst e
    cases d1 with
    | lst ha hd =>
      rename_i us
      have fin : rSlL K (.ref _) lo hi H1 Q := ⟨_, _, rfl, SqL.of (s1.inn.ex _ _ ha), fun p hp => by
        have s := Stp.newD s1.inn (o := .lst (cutV us lo hi)) hp
        refine q _ (.dat (.list (cutL es lo hi))) M1 _ _ (s1.trans s) (Da.lst upd_same (DvAll.da (K := K) ?_)) k
        have := cut_pair (K := K) hd.dv lo hi
        rw [cut_map] at this
        exact DvAll.mono s.gg this⟩
      cases hl with
      | no => cases hh with
        | no => exact fin
        | c j => exact ⟨j, rfl, fin⟩
      | c i => cases hh with
        | no => exact ⟨i, rfl, fin⟩
        | c j => exact ⟨i, rfl, j, rfl, fin⟩
theorem xp_slM {tl th : TO} {lo hi : Option Int} (hl : Pt K tl ds lo) (hh : Pt K th ds hi) (h : Xp K te ds M fun x M1 => ∃ p xs, x = .adr p ∧ M1 p = some (.lst xs) ∧ ∀ l, M1 l = none → Φ (.adr l) (M1.up l (.lst (cutL xs lo hi)))) : Xp K (tSl (rSlL K) te tl th) ds M Φ := fun σ G H sd I Q q =>
  h σ G H sd I _ fun u x M1 G1 H1 s1 d1 ⟨p, xs, e, hp, k⟩ => by
    subst e
    cases d1
    obtain ⟨_, o, eo, m⟩ := s1.inn.ob p _ hp
    obtain ⟨us, rfl, hv⟩ := m.lst
    have fin : rSlL K (.ref p) lo hi H1 Q := ⟨_, _, rfl, SqL.of eo, fun l hl => by
      have s := Stp.newM s1.inn (o := .lst (cutV us lo hi)) (m := .lst (cutL xs lo hi)) hl (cut_pair hv lo hi)
      exact q _ (.adr l) _ _ _ (s1.trans s) rfl (k l (s1.inn.no hl))⟩
    cases hl with
    | no => cases hh with
      | no => exact fin
      | c j => exact ⟨j, rfl, fin⟩
    | c i => cases hh with
      | no => exact ⟨i, rfl, fin⟩
      | c j => exact ⟨i, rfl, j, rfl, fin⟩
theorem xp_slS {tl th : TO} {lo hi : Option Int} (hl : Pt K tl ds lo) (hh : Pt K th ds hi) (h : Xp K te ds M fun x M1 => ∃ ns, x = .sq ns ∧ Φ (.dat (.list (nums (cutL ns lo hi)))) M1) : Xp K (tSl (rSlL K) te tl th) ds M Φ := fun σ G H sd I Q q =>
  h σ G H sd I _ fun u x M1 G1 H1 s1 d1 ⟨ns, e, k⟩ => by
    subst e
    obtain ⟨a, rfl, hs⟩ := d1
    have fin : rSlL K (.ref a) lo hi H1 Q := ⟨_, _, rfl, s1.inn.ex.seq hs, fun p hp => by
      have s := Stp.newD s1.inn (o := .lst (cutV (ns.map V.int) lo hi)) hp
      refine q _ (.dat (.list _)) M1 _ _ (s1.trans s) (Da.lst upd_same ?_) k
      have e2 : cutV (ns.map V.int) lo hi = (cutL ns lo hi).map V.int := by
        unfold cutV cutL
        rw [List.length_map, List.map_take, List.map_drop]
      rw [e2]
      exact DaAll.ints _⟩
    cases hl with
    | no => cases hh with
      | no => exact fin
      | c j => exact ⟨j, rfl, fin⟩
    | c i => cases hh with
      | no => exact ⟨i, rfl, fin⟩
      | c j => exact ⟨i, rfl, j, rfl, fin⟩
/-! ### methods of lists -/
theorem xs_app {ta : TE} (h : Xp K ta ds M fun x M1 => ∃ p xs0, x = .adr p ∧ M1 p = some (.lst xs0) ∧ Xp K te ds M1 fun y M2 => ∃ xs, M2 p = some (.lst xs) ∧ xs.length < 100000 ∧ Δ.nx ds (M2.up p (.lst (xs ++ [y])))) : Xs K (tDrop (tBM K "list" rAppend ta (tCons te tNil))) ds M Δ := fun σ G H sd I D e =>
  h σ G H sd I _ fun u x M1 G1 H1 s1 d1 ⟨p, xs0, ex, hp0, h1⟩ => by
    subst ex; cases d1
    obtain ⟨_, o0, eo0, m0⟩ := s1.inn.ob p _ hp0
    obtain ⟨us0, rfl, _⟩ := m0.lst
    refine ⟨.inl ⟨rfl, _, SqL.of eo0⟩, h1 σ G1 H1 (sd.mono s1.gg) s1.inn _ fun w y M2 G2 H2 s2 d2 ⟨xs, hp, hl, k⟩ => ?_⟩
    obtain ⟨_, o, eo, m⟩ := s2.inn.ob p _ hp
    obtain ⟨us, rfl, hv⟩ := m.lst
    have hm : MOk K G2 (.lst (us ++ [w])) (.lst (xs ++ [y])) := Paired.app hv (.cons d2 .nil)
    have s := s1.trans s2
    have s3 := Stp.put s2.inn hp (o := .lst (us ++ [w])) hm
    exact ⟨p, us, w, rfl, rfl, eo, sz_lt (by rw [hv.length]; exact hl), e.nx σ ds _ _ _ (s.trans s3) (sd.mono (s.trans s3).gg) k⟩
/-- xs.pop(i) -/
theorem xp_pop {ta : TE} (h : Xp K ta ds M fun x M1 => ∃ p xs0, x = .adr p ∧ M1 p = some (.lst xs0) ∧ Xp K te ds M1 fun y M2 => ∃ xs j z, y = .dat (.int ((j : Nat) : Int)) ∧ j < 100000 ∧ M2 p = some (.lst xs) ∧ xs[j]? = some z ∧ Φ z (M2.up p (.lst (xs.eraseIdx j)))) : Xp K (tBM K "list" rPopAt ta (tCons te tNil)) ds M Φ := fun σ G H sd I Q q =>
  h σ G H sd I _ fun u x M1 G1 H1 s1 d1 ⟨p, xs0, ex, hp0, h1⟩ => by
    subst ex; cases d1
    obtain ⟨_, o0, eo0, m0⟩ := s1.inn.ob p _ hp0
    obtain ⟨us0, rfl, _⟩ := m0.lst
    refine ⟨.inl ⟨rfl, _, SqL.of eo0⟩, h1 σ G1 H1 (sd.mono s1.gg) s1.inn _ fun w y M2 G2 H2 s2 d2 ⟨xs, j, z, ey, hj, hp, hz, k⟩ => ?_⟩
    subst ey; cases d2
    obtain ⟨_, o, eo, m⟩ := s2.inn.ob p _ hp
    obtain ⟨us, rfl, hv⟩ := m.lst
    obtain ⟨v, h3, h4⟩ := Paired.at hv hz
    have hm : MOk K G2 (.lst (us.eraseIdx j)) (.lst (xs.eraseIdx j)) := Paired.eraseP j hv
    have s := s1.trans s2
    have s3 := Stp.put s2.inn hp (o := .lst (us.eraseIdx j)) hm
    have hl : j < us.length := (List.getElem?_eq_some_iff.mp h3).1
    refine ⟨p, us, (j : Int), j, v, rfl, rfl, eo, by omega, by omega, ?_, h3, q v z _ _ _ (s.trans s3) (h4.mono s3.gg) k⟩
    unfold seqIndex?
    simp
    omega
end
end K62
end
section
set_option Elab.async false
set_option linter.all false
set_option maxRecDepth 100000
set_option maxHeartbeats 4000000
set_option autoImplicit false
namespace K62
open PySem L2
variable {K : PySem.W.Frag}
/-! ### promises without the heap -/
abbrev SpP := List Ds → MH → (Ds → MH → Prop) → Prop
def spE (K : PySem.W.Frag) (P : SpP) : Sp := fun vs H Q _ => ∃ G M xs Φ, Inn K G M H ∧ DvAll K G vs xs ∧ P xs M Φ ∧ ∀ v x M' G' H', Stp K M G H M' G' H' → Dv K G' v x → Φ x M' → Q v H'
def startD (N : List Str) (xs : List Ds) : DS := xs.map some ++ List.replicate (N.length - xs.length) none
theorem sd_start {G : Hp} {N : List Str} {vs : List V} {xs : List Ds} (h : DvAll K G vs xs) : SD K G (L2.start N vs) (startD N xs) := by
  have hl := h.length
  refine ⟨by unfold L2.start startD; simp [hl], fun i x e => ?_⟩
  unfold startD at e
  unfold L2.start
  by_cases hi : i < xs.length
  · rw [List.getElem?_append_left (by simpa using hi), List.getElem?_map] at e
    rw [List.getElem?_append_left (by simpa [hl] using hi), List.getElem?_map]
    cases q : xs[i]? with
    | none => rw [q] at e; cases e
    | some y =>
      rw [q] at e; cases e
      obtain ⟨v, h1, h2⟩ := Paired.at h q
      exact ⟨v, by rw [h1]; rfl, h2⟩
  · rw [List.getElem?_append_right (by simpa using hi)] at e
    have := List.mem_iff_getElem?.mpr ⟨_, e⟩
    rw [List.mem_replicate] at this
    cases this.2
theorem xp_call {P : SpP} {ds : DS} {M : MH} {Φ : Ds → MH → Prop} {ar : TA} {E : XK} (h : Xa K ar ds M fun xs M1 => P xs M1 Φ) : Xp K (tCall (spE K P) [] E ar) ds M Φ := fun σ G H sd I Q q =>
  h σ G H sd I _ fun us xs M1 G1 H1 s1 d1 k => by
    rw [List.append_nil]
    exact ⟨G1, M1, xs, Φ, s1.inn, d1, k, fun v x M' G' H' s d p => q v x M' G' H' (s1.trans s) d p⟩
section
variable {P : Program} {w : World} {mg : Str → Option Value} {base : Heap}
theorem fn_ok {x qual : Str} {st : Stmt} {f : Addr} {fd : FuncData} {N ps : List Str} {k : Nat} {Pr : SpP} (F : L2.Fun K x qual st f fd) (S : FnScope N ps (defScope st)) (len : ∀ xs M Φ, Pr xs M Φ → xs.length = ps.length)
    (hb : ∀ (cdv : Value) (A : Around) (outer : List Env) (s : Shared) (H : Hp) (E : XK), Room k (A.deeper (PyProof.Rows.envOfC qual (defScope st) s.heap.objs.size f cdv)) → ∃ t, PSs (cxOf CX0 P w K mg base N qual (defScope st) f cdv A outer s H E).nox (defBody st) t ∧
      ∀ xs M Φ, Pr xs M Φ → Xs K t (startD N xs) M { nx := fun _ M' => Φ (.dat .none) M', rt := Φ }) : FnOk P w K mg base CX0 (k + 1) f fd ps (spE K Pr) := by
  refine F.ok S (fun vs H Q E h => ?_) (fun cdv A outer s H vs Q E hr h => ?_)
  · obtain ⟨G, M, xs, Φ, _, d, p, _⟩ := h
    rw [d.length, len xs M Φ p]
  · obtain ⟨G, M, xs, Φ, I, d, p, q⟩ := h
    obtain ⟨t, h1, h2⟩ := hb cdv A outer s H E hr
    refine ⟨t, h1, h2 xs M Φ p _ G H (sd_start d) I _ ⟨fun σ' ds' M' G' H' s' _ k => q _ (.dat .none) M' G' H' s' Da.non k, fun v x M' G' H' s' d' k => q v x M' G' H' s' d' k, fun _ _ _ _ _ _ _ z => z, fun _ _ _ _ _ _ _ z => z⟩⟩
/-- a def of the text, as the top leaves it -/
structure Def (K : PySem.W.Frag) (mg : Str → Option Value) (x : Str) (st : Stmt) (ps : List Str) where
  f : Addr
  fd : FuncData
  F : L2.Fun K x x st f fd
  b : Binds K fd ps []
  m : mg x = some (.ref f)
end
/-! ### objects -/
def putD (f : Str) (v : Ds) : List (Str × Ds) → List (Str × Ds)
  | [] => [(f, v)]
  | (g, x) :: r => if g = f then (g, v) :: r else (g, x) :: putD f v r
abbrev FP (K : PySem.W.Frag) (G : Hp) : List (Str × V) → List (Str × Ds) → Prop := Paired (fun (p : Str × V) (q : Str × Ds) => p.1 = q.1 ∧ Dv K G p.2 q.2)
theorem FP.put {G : Hp} {f : Str} {v : V} {x : Ds} (d : Dv K G v x) : ∀ {fs : List (Str × V)} {gs : List (Str × Ds)}, FP K G fs gs → FP K G (putF f v fs) (putD f x gs)
  | _, _, .nil => .cons ⟨rfl, d⟩ .nil
  | (a, u) :: fs, (b, y) :: gs, .cons ⟨e, h⟩ t => by
    cases (show a = b from e)
    unfold putF putD
    by_cases z : a = f
    · rw [if_pos z, if_pos z]; exact .cons ⟨rfl, d⟩ t
    · rw [if_neg z, if_neg z]; exact .cons ⟨rfl, h⟩ (FP.put d t)
theorem FP.look {G : Hp} {f : Str} {x : Ds} : ∀ {fs : List (Str × V)} {gs : List (Str × Ds)}, FP K G fs gs → gs.lookup f = some x → ∃ v, fs.lookup f = some v ∧ Dv K G v x
  | _, _, .nil, e => by cases e
  | (a, u) :: fs, (b, y) :: gs, .cons ⟨e, h⟩ t, q => by
    cases (show a = b from e)
    rw [List.lookup_cons] at q ⊢
    cases z : f == a with
    | true => rw [z] at q; cases q; exact ⟨u, rfl, h⟩
    | false => rw [z] at q; exact FP.look t q
theorem FP.no {G : Hp} {f : Str} : ∀ {fs : List (Str × V)} {gs : List (Str × Ds)}, FP K G fs gs → gs.lookup f = none → fs.lookup f = none
  | _, _, .nil, _ => rfl
  | (a, u) :: fs, (b, y) :: gs, .cons ⟨e, h⟩ t, q => by
    cases (show a = b from e)
    rw [List.lookup_cons] at q ⊢
    cases z : f == a with
    | true => rw [z] at q; cases q
    | false => rw [z] at q; exact FP.no t q
/-- a thing that none looks at -/
theorem Stp.newX {G H : Hp} {M : MH} (I : Inn K G M H) {p : Addr} {o : HO} (hp : H p = none) : Stp K M G H M G (upd H p o) := by
  refine ⟨Same.refl _, fun a u _ e => by rw [upd_ne (ne_of_none e hp)]; exact e, ⟨fun b u e => by rw [upd_ne (ne_of_none e (I.noG hp))]; exact I.ex b u e, fun q m e => ?_⟩, fun a h _ => h, fun _ h _ _ => h⟩
  obtain ⟨h1, u, h2, h3⟩ := I.ob q m e
  exact ⟨h1, u, by rw [upd_ne (ne_of_none h2 hp)]; exact h2, h3⟩
section
variable {ds : DS} {M : MH} {Φ : Ds → MH → Prop} {Δ : XE} {ta tv td ty te : TE} {ar : TA} {C : Addr} {f : Str}
theorem xp_fld (c : Cls K C) (n : NoAttr K C f) (h : Xp K ta ds M fun x M1 => ∃ p dx fs y, x = .adr p ∧ M1 p = some (.ins C dx fs) ∧ fs.lookup f = some y ∧ Φ y M1) : Xp K (tFld K ta f) ds M Φ := fun σ G H sd I Q q =>
  h σ G H sd I _ fun u x M1 G1 H1 s1 d1 ⟨p, dx, fs, y, e, hp, hl, k⟩ => by
    subst e; cases d1
    obtain ⟨_, o, eo, m⟩ := s1.inn.ob p _ hp
    obtain ⟨us, rfl, hv⟩ := m.ins
    obtain ⟨v, h1, h2⟩ := FP.look hv hl
    exact ⟨p, C, dx, us, v, rfl, eo, c, n, h1, q v y M1 G1 H1 s1 h2 k⟩
theorem xs_fld (c : Cls K C) (n : NoAttr K C f) (h : Xp K tv ds M fun y M1 => Xp K ta ds M1 fun x M2 => ∃ p dx fs, x = .adr p ∧ M2 p = some (.ins C dx fs) ∧ fs.length < 1000 ∧ Δ.nx ds (M2.up p (.ins C dx (putD f y fs)))) : Xs K (sFld K ta tv f) ds M Δ := fun σ G H sd I D e =>
  h σ G H sd I _ fun u y M1 G1 H1 s1 d1 h1 => h1 σ G1 H1 (sd.mono s1.gg) s1.inn _ fun w x M2 G2 H2 s2 d2 ⟨p, dx, fs, ex, hp, hl, k⟩ => by
    subst ex; cases d2
    obtain ⟨_, o, eo, m⟩ := s2.inn.ob p _ hp
    obtain ⟨us, rfl, hv⟩ := m.ins
    have s := s1.trans s2
    have hm : MOk K G2 (.ins C dx (putF f u us)) (.ins C dx (putD f y fs)) := ⟨rfl, rfl, FP.put (d1.mono s2.gg) hv⟩
    have s3 := Stp.put s2.inn hp (o := .ins C dx (putF f u us)) hm
    exact ⟨p, C, dx, us, rfl, eo, c, n, by rw [hv.length]; exact hl, e.nx σ ds _ _ _ (s.trans s3) (sd.mono (s.trans s3).gg) k⟩
theorem xp_meth {P : SpP} {m : Str} {E : XK} (h : Xp K ta ds M fun x M1 => ∃ p dx fs, x = .adr p ∧ M1 p = some (.ins C dx fs) ∧ fs.lookup m = none ∧ Xa K ar ds M1 fun xs M2 => P (.adr p :: xs) M2 Φ) : Xp K (tMeth C m (spE K P) [] E ta ar) ds M Φ := fun σ G H sd I Q q =>
  h σ G H sd I _ fun u x M1 G1 H1 s1 d1 ⟨p, dx, fs, ex, hp, hl, k⟩ => by
    subst ex; cases d1
    obtain ⟨_, o, eo, mm⟩ := s1.inn.ob p _ hp
    obtain ⟨us, rfl, hv⟩ := mm.ins
    refine ⟨p, dx, us, rfl, eo, FP.no hv hl, k σ G1 H1 (sd.mono s1.gg) s1.inn _ fun ws xs M2 G2 H2 s2 d2 k2 => ?_⟩
    rw [List.append_nil]
    exact ⟨G2, M2, .adr p :: xs, Φ, s2.inn, .cons rfl d2, k2, fun v x M' G' H' s d pp => q v x M' G' H' ((s1.trans s2).trans s) d pp⟩
theorem xp_make {P : SpP} {E : XK} (h : Xa K ar ds M fun xs M1 => ∀ x dx, M1 x = none → P (.adr x :: xs) (M1.up x (.ins C dx [])) fun y M2 => y = .dat .none ∧ Φ (.adr x) M2) : Xp K (tMake C (spE K P) [] E ar) ds M Φ := fun σ G H sd I Q q =>
  h σ G H sd I _ fun us xs M1 G1 H1 s1 d1 k x dx hx hdx hne => by
    rw [List.append_nil]
    have s2 := Stp.newX s1.inn (o := .own x) hdx
    have hx2 : upd H1 dx (.own x) x = none := by rw [upd_ne (Ne.symm hne)]; exact hx
    have hm : MOk K G1 (.ins C dx []) (.ins C dx []) := ⟨rfl, rfl, .nil⟩
    have s3 := Stp.newM s2.inn (o := .ins C dx []) (m := .ins C dx []) hx2 hm
    have s := (s1.trans s2).trans s3
    refine ⟨G1, M1.up x (.ins C dx []), .adr x :: xs, _, s3.inn, .cons rfl d1, k x dx (s1.inn.no hx), fun v y M' G' H' s4 d4 ⟨e, p⟩ => ?_⟩
    subst e; cases d4
    exact ⟨rfl, q _ (.adr x) M' G' H' (s.trans s4) rfl p⟩
/-! ### dicts, keys ints or texts -/
def kD : Key → PyData
  | .inl i => .int i
  | .inr x => .str x
def lookK {κ : Type} [DecidableEq κ] (kvs : List (κ × Ds)) (k : κ) : Option Ds := (kvs.find? fun kv => decide (kv.1 = k)).map (·.2)
def putM {κ : Type} [DecidableEq κ] (kvs : List (κ × Ds)) (k : κ) (x : Ds) : List (κ × Ds) := if (kvs.any fun kv => decide (kv.1 = k)) = true then kvs.map (fun kv => if kv.1 = k then (kv.1, x) else kv) else kvs ++ [(k, x)]
theorem kD_inv {G : Hp} {u : V} {k : Key} (h : Da G u (kD k)) : u = kV k := by
  cases k with
  | inl i => cases h; rfl
  | inr x => cases h; rfl
theorem kDs_inv {G : Hp} : ∀ {ks : List Key} {us : List V}, DaAll G us (ks.map kD) → us = ks.map kV
  | [], _, h => by cases h; rfl
  | k :: ks, _, h => by
    cases h with
    | cons h1 h2 => rw [kD_inv h1, kDs_inv h2]; rfl
inductive OD (K : PySem.W.Frag) (G : Hp) : Option V → Option Ds → Prop
  | n : OD K G none none
  | s {v : V} {x : Ds} : Dv K G v x → OD K G (some v) (some x)
theorem OD.some' {G : Hp} {r : Option V} {x : Ds} (h : OD K G r (some x)) : ∃ v, r = some v ∧ Dv K G v x := by
  cases h with | s d => exact ⟨_, rfl, d⟩
theorem OD.isS {G : Hp} {r : Option V} {o : Option Ds} (h : OD K G r o) : r.isSome = o.isSome := by
  cases h <;> rfl
abbrev KP {κ : Type} (K : PySem.W.Frag) (G : Hp) : List (κ × V) → List (κ × Ds) → Prop := Paired (fun (p : κ × V) (q : κ × Ds) => p.1 = q.1 ∧ Dv K G p.2 q.2)
section
variable {κ : Type} [DecidableEq κ] {G : Hp} {k : κ}
theorem KP.look : ∀ {kvs : List (κ × V)} {xs : List (κ × Ds)}, KP K G kvs xs → OD K G (valV kvs k) (lookK xs k)
  | _, _, .nil => .n
  | (a, u) :: kvs, (b, y) :: xs, .cons ⟨e, h⟩ t => by
    cases (show a = b from e)
    by_cases z : a = k
    · have e1 : lookK ((a, y) :: xs) k = some y := by simp [lookK, List.find?_cons, z]
      rw [e1, valV_pos z]
      exact .s h
    · have e1 : lookK ((a, y) :: xs) k = lookK xs k := by simp [lookK, List.find?_cons, z]
      have e2 : valV ((a, u) :: kvs) k = valV kvs k := valV_neg z
      rw [e1, e2]
      exact KP.look t
theorem KP.any : ∀ {kvs : List (κ × V)} {xs : List (κ × Ds)}, KP K G kvs xs → (kvs.any fun kv => decide (kv.1 = k)) = (xs.any fun kv => decide (kv.1 = k))
  | _, _, .nil => rfl
  | (a, u) :: kvs, (b, y) :: xs, .cons ⟨e, h⟩ t => by
    cases (show a = b from e)
    rw [List.any_cons, List.any_cons, KP.any t]
theorem KP.map {v : V} {x : Ds} (d : Dv K G v x) : ∀ {kvs : List (κ × V)} {xs : List (κ × Ds)}, KP K G kvs xs → KP K G (kvs.map fun kv => if kv.1 = k then (kv.1, v) else kv) (xs.map fun kv => if kv.1 = k then (kv.1, x) else kv)
  | _, _, .nil => .nil
  | (a, u) :: kvs, (b, y) :: xs, .cons ⟨e, h⟩ t => by
    cases (show a = b from e)
    rw [List.map_cons, List.map_cons]
    refine .cons ?_ (KP.map d t)
    by_cases z : a = k
    · simp only [z, if_true]; exact ⟨trivial, d⟩
    · simp only [z, if_false]; exact ⟨trivial, h⟩
theorem KP.put {v : V} {x : Ds} (d : Dv K G v x) {kvs : List (κ × V)} {xs : List (κ × Ds)} (h : KP K G kvs xs) : KP K G (putK kvs k v) (putM xs k x) := by
  unfold putK putM
  rw [KP.any h]
  by_cases z : (xs.any fun kv => decide (kv.1 = k)) = true
  · rw [if_pos z, if_pos z]; exact KP.map d h
  · rw [if_neg z, if_neg z]; exact Paired.app h (.cons ⟨rfl, d⟩ .nil)
end
/-- a key, as a value is told; the dict that it asks -/
inductive KeyAt (M : MH) (p : Addr) : Ds → (Option Ds) → Prop
  | k {kvs : List (Key × Ds)} (k : Key) : M p = some (.dK kvs) → KeyAt M p (.dat (kD k)) (lookK kvs k)
  | t {kvs : List (List Key × Ds)} (k : List Key) : M p = some (.dT kvs) → KeyAt M p (.dat (.tuple (k.map kD))) (lookK kvs k)
theorem KeyAt.get {M : MH} {G H : Hp} (I : Inn K G M H) {p : Addr} {y : Ds} {u : V} (d : Dv K G u y) {o : Option Ds} (h : KeyAt M p y o) : ∃ r, DGet H p u r ∧ OD K G r o := by
  cases h with
  | k k hp =>
    obtain ⟨_, ob, e, m⟩ := I.ob p _ hp
    obtain ⟨kvs, rfl, hv⟩ := m.dK
    have := kD_inv d
    subst this
    exact ⟨_, DGet.k e, KP.look hv⟩
  | t k hp =>
    obtain ⟨_, ob, e, m⟩ := I.ob p _ hp
    obtain ⟨kvs, rfl, hv⟩ := m.dT
    cases d with
    | tup hb hd =>
      have := kDs_inv hd
      subst this
      exact ⟨_, DGet.t e (I.ex _ _ hb), KP.look hv⟩
section
variable {ds : DS} {M : MH} {Φ : Ds → MH → Prop} {Δ : XE} {ta tv td ty te tx : TE}
theorem xp_dget (h : Xp K td ds M fun x M1 => Xp K ty ds M1 fun y M2 => ∃ p z, x = .adr p ∧ KeyAt M2 p y (some z) ∧ Φ z M2) : Xp K (tDGet td ty) ds M Φ := fun σ G H sd I Q q =>
  h σ G H sd I _ fun u x M1 G1 H1 s1 d1 h1 => h1 σ G1 H1 (sd.mono s1.gg) s1.inn _ fun w y M2 G2 H2 s2 d2 ⟨p, z, ex, ka, k⟩ => by
    subst ex; cases d1
    obtain ⟨r, g, od⟩ := ka.get s2.inn d2
    obtain ⟨v, rfl, dv⟩ := od.some'
    exact ⟨p, v, rfl, g, q v z M2 G2 H2 (s1.trans s2) dv k⟩
theorem xp_din (h : Xp K ty ds M fun y M1 => Xp K td ds M1 fun x M2 => ∃ p o, x = .adr p ∧ KeyAt M2 p y o ∧ Φ (.dat (.bool o.isSome)) M2) : Xp K (tDIn ty td) ds M Φ := fun σ G H sd I Q q =>
  h σ G H sd I _ fun w y M1 G1 H1 s1 d1 h1 => h1 σ G1 H1 (sd.mono s1.gg) s1.inn _ fun u x M2 G2 H2 s2 d2 ⟨p, o, ex, ka, k⟩ => by
    subst ex; cases d2
    obtain ⟨r, g, e⟩ := ka.get s2.inn (d1.mono s2.gg)
    refine ⟨p, r, rfl, g, ?_⟩
    rw [e.isS]
    exact q _ (.dat (.bool o.isSome)) M2 G2 H2 (s1.trans s2) (Da.bl _) k
theorem xp_dni (h : Xp K ty ds M fun y M1 => Xp K td ds M1 fun x M2 => ∃ p o, x = .adr p ∧ KeyAt M2 p y o ∧ Φ (.dat (.bool (!o.isSome))) M2) : Xp K (tDNotIn ty td) ds M Φ := fun σ G H sd I Q q =>
  h σ G H sd I _ fun w y M1 G1 H1 s1 d1 h1 => h1 σ G1 H1 (sd.mono s1.gg) s1.inn _ fun u x M2 G2 H2 s2 d2 ⟨p, o, ex, ka, k⟩ => by
    subst ex; cases d2
    obtain ⟨r, g, e⟩ := ka.get s2.inn (d1.mono s2.gg)
    refine ⟨p, r, rfl, g, ?_⟩
    rw [e.isS]
    exact q _ (.dat (.bool (!o.isSome))) M2 G2 H2 (s1.trans s2) (Da.bl _) k
/-- d.get(k, x) -/
theorem xp_dget2 (h : Xp K td ds M fun x M1 => ∃ p, x = .adr p ∧ (∃ kvs, M1 p = some (.dK kvs)) ∧ Xp K ty ds M1 fun y M2 => Xp K tx ds M2 fun z M3 => ∃ o, KeyAt M3 p y o ∧ Φ (o.getD z) M3) : Xp K (tDGet2 td ty tx) ds M Φ := fun σ G H sd I Q q =>
  h σ G H sd I _ fun u x M1 G1 H1 s1 d1 ⟨p, ex, ⟨kvs, hk⟩, h1⟩ => by
    subst ex; cases d1
    obtain ⟨_, ob, e, m⟩ := s1.inn.ob p _ hk
    obtain ⟨us, rfl, _⟩ := m.dK
    refine ⟨p, rfl, .inl ⟨us, .inl e⟩, h1 σ G1 H1 (sd.mono s1.gg) s1.inn _ fun w y M2 G2 H2 s2 d2 h2 => h2 σ G2 H2 (sd.mono (s1.trans s2).gg) s2.inn _ fun w' z M3 G3 H3 s3 d3 ⟨o, ka, k⟩ => ?_⟩
    obtain ⟨r, g, eq⟩ := ka.get s3.inn (d2.mono s3.gg)
    refine ⟨r, g, ?_⟩
    have s := (s1.trans s2).trans s3
    cases eq with
    | n => exact q w' z M3 G3 H3 s d3 k
    | s dv => exact q _ _ M3 G3 H3 s dv k
inductive KeyPut (M : MH) (p : Addr) (x : Ds) : Ds → MH → Prop
  | k {kvs : List (Key × Ds)} (k : Key) : M p = some (.dK kvs) → kvs.length < 100000 → KeyPut M p x (.dat (kD k)) (M.up p (.dK (putM kvs k x)))
  | t {kvs : List (List Key × Ds)} (k : List Key) : M p = some (.dT kvs) → kvs.length < 100000 → KeyPut M p x (.dat (.tuple (k.map kD))) (M.up p (.dT (putM kvs k x)))
theorem xs_dput (h : Xp K tv ds M fun x M1 => Xp K td ds M1 fun o M2 => Xp K ty ds M2 fun y M3 => ∃ p M4, o = .adr p ∧ KeyPut M3 p x y M4 ∧ Δ.nx ds M4) : Xs K (sDPut td ty tv) ds M Δ := fun σ G H sd I D e =>
  h σ G H sd I _ fun v x M1 G1 H1 s1 d1 h1 => h1 σ G1 H1 (sd.mono s1.gg) s1.inn _ fun u o M2 G2 H2 s2 d2 h2 => h2 σ G2 H2 (sd.mono (s1.trans s2).gg) s2.inn _ fun w y M3 G3 H3 s3 d3 ⟨p, M4, eo, kp, kk⟩ => by
    subst eo; cases d2
    have s := (s1.trans s2).trans s3
    have dv := (d1.mono s2.gg).mono s3.gg
    cases kp with
    | k k hp hl =>
      obtain ⟨_, ob, e1, m⟩ := s3.inn.ob p _ hp
      obtain ⟨kvs, rfl, hv⟩ := m.dK
      have := kD_inv d3
      subst this
      have hm : MOk K G3 (.dK (putK kvs k v)) (.dK (putM _ k x)) := KP.put dv hv
      have s4 := Stp.put s3.inn hp (o := .dK (putK kvs k v)) hm
      exact ⟨p, _, rfl, DPut.k e1 (sz_lt (by rw [hv.length]; exact hl)), e.nx σ ds _ _ _ (s.trans s4) (sd.mono (s.trans s4).gg) kk⟩
    | t k hp hl =>
      obtain ⟨_, ob, e1, m⟩ := s3.inn.ob p _ hp
      obtain ⟨kvs, rfl, hv⟩ := m.dT
      cases d3 with
      | tup hb hd =>
        have := kDs_inv hd
        subst this
        have hm : MOk K G3 (.dT (putK kvs k v)) (.dT (putM _ k x)) := KP.put dv hv
        have s4 := Stp.put s3.inn hp (o := .dT (putK kvs k v)) hm
        exact ⟨p, _, rfl, DPut.t e1 (s3.inn.ex _ _ hb) (sz_lt (by rw [hv.length]; exact hl)), e.nx σ ds _ _ _ (s.trans s4) (sd.mono (s.trans s4).gg) kk⟩
/-- {k: v}, k an int -/
theorem xp_disp1 {tk : TE} (h : ∀ p, M p = none → Xp K tk ds (M.up p (.dK [])) fun y M1 => Xp K tv ds M1 fun x M2 => ∃ i, y = .dat (.int i) ∧ M2 p = some (.dK []) ∧ Φ (.adr p) (M2.up p (.dK [(Sum.inl i, x)]))) : Xp K (tDisp [(tk, tv)]) ds M Φ := fun σ G H sd I Q q p hp => by
  have hm : MOk K G (.dK []) (.dK []) := Paired.nil
  have s0 := Stp.newM I (o := .dK []) (m := .dK []) hp hm
  refine h p (I.no hp) σ G _ sd s0.inn _ fun w y M1 G1 H1 s1 d1 h1 => h1 σ G1 H1 (sd.mono s1.gg) s1.inn _ fun v x M2 G2 H2 s2 d2 ⟨i, ey, hp2, k⟩ => ?_
  subst ey; cases d1
  obtain ⟨_, ob, e1, m⟩ := s2.inn.ob p _ hp2
  obtain ⟨kvs, rfl, hv⟩ := m.dK
  cases hv
  have hm3 : MOk K G2 (.dK [(Sum.inl i, v)]) (.dK [(Sum.inl i, x)]) := .cons ⟨rfl, d2⟩ .nil
  have s3 := Stp.put s2.inn hp2 (o := .dK [(Sum.inl i, v)]) hm3
  exact ⟨e1, [(Sum.inl i, v)], rfl, (by show 1 ≤ 15; decide), q _ (.adr p) _ _ _ (((s0.trans s1).trans s2).trans s3) rfl k⟩
end
end
end K62
end
section
set_option Elab.async false
set_option linter.all false
set_option maxRecDepth 100000
set_option maxHeartbeats 4000000
namespace K62
open PySem L2
/-! ### the rules with the written part's name in place of the context's -/
section
variable {X : Cx} {K : PySem.W.Frag}
theorem kiL {tg it : Expr} {te : TE} (hK : X.K = K) (h : PI X tg it (iList X.K te)) : PI X tg it (iList K te) := hK ▸ h
theorem kiT {tg it : Expr} {te : TE} (hK : X.K = K) (h : PI X tg it (iTup X.K te)) : PI X tg it (iTup K te) := hK ▸ h
theorem kiE {tg it : Expr} {te : TA} (hK : X.K = K) (h : PI X tg it (iEnum X.K te)) : PI X tg it (iEnum K te) := hK ▸ h
theorem kiZ {tg it : Expr} {te : TA} (hK : X.K = K) (h : PI X tg it (iZip X.K te)) : PI X tg it (iZip K te) := hK ▸ h
theorem kgT {tg : Expr} {n : Nat} {g : TGs} (hK : X.K = K) (h : PG X tg (gTup X.K n g)) : PG X tg (gTup K n g) := hK ▸ h
theorem kbm {e : Expr} {s : String} {r : V → List V → Hp → VK → Prop} {to : TE} {t : TA} (hK : X.K = K) (h : PE X e (tBM X.K s r to t)) : PE X e (tBM K s r to t) := hK ▸ h
theorem kfl {e : Expr} {f : Str} {to : TE} (hK : X.K = K) (h : PE X e (tFld X.K to f)) : PE X e (tFld K to f) := hK ▸ h
theorem ksf {s : Stmt} {f : Str} {to tv : TE} (hK : X.K = K) (h : PS X s (sFld X.K to tv f)) : PS X s (sFld K to tv f) := hK ▸ h
theorem k_ix (hK : X.K = K) : IxR X (rIx K) := by rw [← hK]; exact ix_seq
theorem k_sl (hK : X.K = K) : SlR X (rSlL K) := by rw [← hK]; exact sl_list
theorem k_eq (hK : X.K = K) (hu : X.A.units + 64 < cLine) : OpR X (compareOp .Eq) (rEqD K) := by rw [← hK]; exact op_eqD hu
theorem k_ne (hK : X.K = K) (hu : X.A.units + 64 < cLine) : OpR X (compareOp .NotEq) (rNeD K) := by rw [← hK]; exact op_neD hu
theorem k_in (hK : X.K = K) (hu : X.A.units + 65 < cLine) : OpR X (compareOp .In) (rInD K) := by rw [← hK]; exact op_inD hu
theorem k_ni (hK : X.K = K) (hu : X.A.units + 65 < cLine) : OpR X (compareOp .NotIn) (rNotInD K) := by rw [← hK]; exact op_notInD hu
theorem k_inT (hK : X.K = K) : OpR X (compareOp .In) (rIn K false) := by rw [← hK]; exact op_in_seq
theorem k_len (hK : X.K = K) : CallR X (.builtin "len") (fun xs H Q => ∃ p ys, xs = [.ref p] ∧ (SqL K H p ys ∨ SqT K H p ys) ∧ Q (.int ys.length) H) := by rw [← hK]; exact call_len_seq
theorem k_list (hK : X.K = K) : CallR X (.type "list") (fun xs H Q => ∃ p ys, xs = [.ref p] ∧ (SqL K H p ys ∨ SqT K H p ys) ∧ ∀ l, H l = none → Q (.ref l) (upd H l (.lst ys))) := by rw [← hK]; exact call_list_of
theorem k_sum (hK : X.K = K) (hc : X.calm = true) : CallR X (.builtin "sum") (rSum K) := by rw [← hK]; exact cr_sum hc
theorem k_max (hK : X.K = K) (hc : X.calm = true) : CallR X (.builtin "max") (rMax K) := by rw [← hK]; exact cr_max hc
theorem k_min (hK : X.K = K) (hc : X.calm = true) : CallR X (.builtin "min") (rMin K) := by rw [← hK]; exact cr_min hc
theorem k_all (hK : X.K = K) (hc : X.calm = true) : CallR X (.builtin "all") (rAll K) := by rw [← hK]; exact cr_all hc
theorem k_isi (hK : X.K = K) : CallR X (.builtin "isinstance") (rIsi K) := by rw [← hK]; exact call_isi
end
end K62
end
section
set_option Elab.async false
set_option linter.all false
set_option maxRecDepth 100000
set_option maxHeartbeats 4000000
set_option autoImplicit false
namespace K62
open PySem L2
variable {K : PySem.W.Frag}
/-! ### walks over data alone -/
def XiW (K : PySem.W.Frag) (Gd0 : MH → Prop) (wi : TI) (ds : DS) (M : MH) (xs : List PyData) : Prop :=
  Xi K wi ds M fun k Gd Y M1 => M1 = M ∧ k = xs.length ∧ (∀ M', Gd0 M' → Gd M') ∧ ∀ i x M2 M3, Y i x M2 M3 → M3 = M2 ∧ ∃ d, xs[i]? = some d ∧ x = .dat d
abbrev XiD (K : PySem.W.Frag) : TI → DS → MH → List PyData → Prop := XiW K fun _ => True
theorem XiD.w {Gd0 : MH → Prop} {wi : TI} {ds : DS} {M : MH} {xs : List PyData} (h : XiD K wi ds M xs) : XiW K Gd0 wi ds M xs := fun σ G H sd I R q => h σ G H sd I R fun J n Gd Y M' G' H' s wk ⟨e1, e2, e3, e4⟩ => q J n Gd Y M' G' H' s wk ⟨e1, e2, fun M' _ => e3 M' trivial, e4⟩
section
variable {ds : DS} {M : MH} {te : TE} {ar : TA}
theorem yi_dat {xs : List PyData} : ∀ i x M2 M3, YI (dats xs) i x M2 M3 → M3 = M2 ∧ ∃ d, xs[i]? = some d ∧ x = .dat d := fun i x M2 M3 ⟨h, e⟩ => by
  refine ⟨e, ?_⟩
  rw [List.getElem?_map] at h
  cases q : xs[i]? with
  | none => rw [q] at h; cases h
  | some d => rw [q] at h; cases h; exact ⟨d, rfl, rfl⟩
theorem xd_list {xs : List PyData} (h : Xp K te ds M fun x M1 => x = .dat (.list xs) ∧ M1 = M) : XiD K (iList K te) ds M xs :=
  xi_list (xp_mono h fun x M1 ⟨e, em⟩ => ⟨xs, e, em, rfl, fun _ h => h, yi_dat⟩)
theorem xd_var {i : Nat} {xs : List PyData} (h : ds[i]? = some (some (.dat (.list xs)))) : XiD K (iList K (tVar i)) ds M xs := xd_list (xp_var h ⟨rfl, rfl⟩)
theorem xd_tup {xs : List PyData} (h : Xp K te ds M fun x M1 => x = .dat (.tuple xs) ∧ M1 = M) : XiD K (iTup K te) ds M xs :=
  xi_tup (xp_mono h fun x M1 ⟨e, em⟩ => ⟨xs, e, em, rfl, fun _ h => h, yi_dat⟩)
def rngD (lo : Int) (n : Nat) : List PyData := (List.range n).map fun i => .int (lo + (i : Nat))
theorem rngD_len (lo : Int) (n : Nat) : (rngD lo n).length = n := by unfold rngD; rw [List.length_map, List.length_range]
theorem yr_dat {lo : Int} {n : Nat} : ∀ i x M2 M3, i < n → YR lo i x M2 M3 → M3 = M2 ∧ ∃ d, (rngD lo n)[i]? = some d ∧ x = .dat d := fun i x M2 M3 hi ⟨h, e⟩ => by
  refine ⟨e, .int (lo + i), ?_, h⟩
  unfold rngD
  rw [List.getElem?_map, List.getElem?_range hi]; rfl
theorem Xi.small {wi : TI} {Φ : Nat → (MH → Prop) → (Nat → Ds → MH → MH → Prop) → MH → Prop} (h : Xi K wi ds M fun n Gd Y M1 => Φ n Gd (fun i x M2 M3 => i < n ∧ Y i x M2 M3) M1) : Xi K wi ds M Φ := fun σ G H sd I R q =>
  h σ G H sd I R fun J n Gd Y M' G' H' s wk k => q J n Gd (fun i x M2 M3 => i < n ∧ Y i x M2 M3) M' G' H' s ⟨wk.goes, wk.stops, fun i M G H v H' hi g I gd y => by
    obtain ⟨x, M', G', s, d, hy⟩ := wk.yields i M G H v H' hi g I gd y
    exact ⟨x, M', G', s, d, hi, hy⟩⟩ k
theorem xd_rng1 {n : Nat} (hn : n ≤ 100000) (h : Xa K ar ds M fun xs M1 => xs = [.dat (.int n)] ∧ M1 = M) : XiD K (iRng1 ar) ds M (rngD 0 n) :=
  Xi.small (xi_rng1 fun σ G H sd I Q q => h σ G H sd I Q fun vs xs M' G' H' s d ⟨e, em⟩ => q vs xs M' G' H' s d ⟨n, e, by omega, by omega, em, by rw [rngD_len]; omega, fun _ h => h, fun i x M2 M3 ⟨hi, y⟩ => yr_dat i x M2 M3 (by omega) y⟩)
theorem xd_rng2 {lo hi : Int} (h1 : -100000 ≤ lo) (h2 : lo ≤ 100000) (h3 : -100000 ≤ hi) (h4 : hi ≤ 100000) (h : Xa K ar ds M fun xs M1 => xs = [.dat (.int lo), .dat (.int hi)] ∧ M1 = M) : XiD K (iRng2 ar) ds M (rngD lo (hi - lo).toNat) :=
  Xi.small (xi_rng2 fun σ G H sd I Q q => h σ G H sd I Q fun vs xs M' G' H' s d ⟨e, em⟩ => q vs xs M' G' H' s d ⟨lo, hi, e, h1, h2, h3, h4, em, by rw [rngD_len], fun _ h => h, fun i x M2 M3 ⟨hi, y⟩ => yr_dat i x M2 M3 hi y⟩)
def enumD (xs : List PyData) : List PyData := (List.range xs.length).zipWith (fun i d => .tuple [.int (i : Nat), d]) xs
theorem enumD_len (xs : List PyData) : (enumD xs).length = xs.length := by unfold enumD; rw [List.length_zipWith, List.length_range]; omega
theorem enumD_at {xs : List PyData} {i : Nat} {d : PyData} (h : xs[i]? = some d) : (enumD xs)[i]? = some (.tuple [.int (i : Nat), d]) := by
  unfold enumD
  have hl := (List.getElem?_eq_some_iff.mp h).1
  rw [List.getElem?_zipWith, List.getElem?_range hl, h]
theorem enumD_inv {xs : List PyData} {i : Nat} {e : PyData} (h : (enumD xs)[i]? = some e) : ∃ d, xs[i]? = some d ∧ e = .tuple [.int (i : Nat), d] := by
  have hl : i < xs.length := by
    have := (List.getElem?_eq_some_iff.mp h).1
    rw [enumD_len] at this; exact this
  have q : xs[i]? = some xs[i] := List.getElem?_eq_getElem hl
  rw [enumD_at q] at h
  exact ⟨_, q, (Option.some.inj h).symm⟩
theorem xd_enum {xs : List PyData} (h : Xa K ar ds M fun ys M1 => ys = [.dat (.list xs)] ∧ M1 = M) : XiD K (iEnum K ar) ds M (enumD xs) :=
  xi_enum fun σ G H sd I Q q => h σ G H sd I Q fun vs ys M' G' H' s d ⟨e, em⟩ => q vs ys M' G' H' s d ⟨xs, e, em, by rw [enumD_len], fun _ h => h, fun i x M2 M3 ⟨⟨d, hd, ex⟩, e3⟩ => ⟨e3, _, enumD_at hd, ex⟩⟩
def zipD (xs ys : List PyData) : List PyData := xs.zipWith (fun d e => .tuple [d, e]) ys
theorem zipD_at {xs ys : List PyData} {i : Nat} {d e : PyData} (h : xs[i]? = some d) (h2 : ys[i]? = some e) : (zipD xs ys)[i]? = some (.tuple [d, e]) := by
  unfold zipD; rw [List.getElem?_zipWith, h, h2]
theorem zipD_inv {xs ys : List PyData} {i : Nat} {z : PyData} (h : (zipD xs ys)[i]? = some z) : ∃ d e, xs[i]? = some d ∧ ys[i]? = some e ∧ z = .tuple [d, e] := by
  unfold zipD at h
  rw [List.getElem?_zipWith] at h
  cases q : xs[i]? with
  | none => rw [q] at h; cases h
  | some d =>
    cases q2 : ys[i]? with
    | none => rw [q, q2] at h; cases h
    | some e => rw [q, q2] at h; exact ⟨d, e, rfl, rfl, (Option.some.inj h).symm⟩
theorem xd_zip {xs ys : List PyData} (hl : xs.length = ys.length) (h : Xa K ar ds M fun zs M1 => zs = [.dat (.list xs), .dat (.list ys)] ∧ M1 = M) : XiD K (iZip K ar) ds M (zipD xs ys) :=
  xi_zip fun σ G H sd I Q q => h σ G H sd I Q fun vs zs M' G' H' s d ⟨e, em⟩ => q vs zs M' G' H' s d ⟨xs, ys, e, hl, em, by unfold zipD; rw [List.length_zipWith]; omega, fun _ h => h, fun i x M2 M3 ⟨⟨d, f, hd, hf, ex⟩, e3⟩ => ⟨e3, _, zipD_at hd hf, ex⟩⟩
end
theorem enumD_map {α : Type} (enc : α → PyData) (l : List α) : enumD (l.map enc) = l.zipIdx.map fun p => .tuple [.int (p.2 : Nat), enc p.1] := by
  refine List.ext_getElem? fun i => ?_
  rw [List.getElem?_map, List.getElem?_zipIdx]
  cases e : l[i]? with
  | none =>
    have : (enumD (l.map enc)).length ≤ i := by rw [enumD_len, List.length_map]; exact List.getElem?_eq_none_iff.mp e
    rw [List.getElem?_eq_none this]; rfl
  | some a =>
    rw [enumD_at (d := enc a) (by rw [List.getElem?_map, e]; rfl)]
    simp
theorem zipD_map {α β : Type} (e1 : α → PyData) (e2 : β → PyData) (l : List α) (r : List β) : zipD (l.map e1) (r.map e2) = (l.zip r).map fun p => .tuple [e1 p.1, e2 p.2] := by
  unfold zipD
  rw [List.zipWith_map_left, List.zipWith_map_right, List.zip, List.map_zipWith]
section
variable {Gd0 Gd1 : MH → Prop} {ds : DS} {M : MH} {Φ : Ds → MH → Prop} {wi wi1 : TI} {g g1 : TG} {tt : TT} {te : TE} {vs vs1 : List Nat} {α β : Type} {l : List α} {enc : α → PyData}
/-- a comprehension over data that makes data: f, none where it is left out -/
theorem xp_lcW (f : α → Option PyData) (h1 : XiW K Gd0 wi ds M (l.map enc)) (hg : Gd0 M) (hl : l.length < 100000)
    (h : ∀ (i : Nat) (a : α), l[i]? = some a → Xg K g vs (.dat (enc a)) (wipeD ds vs) M fun ds2 M3 => M3 = M ∧ Xt K tt ds2 M fun b M4 => M4 = M ∧ b = (f a).isSome ∧ (b = true → Xp K te ds2 M fun y M5 => M5 = M ∧ ∃ e, f a = some e ∧ y = .dat e))
    (k : Φ (.dat (.list (l.filterMap f))) M) : Xp K (tLc wi g tt te vs) ds M Φ := by
  refine xp_lc fun σ G H sd I R q => h1 σ G H sd I R fun J n Gd Y M' G' H' s wk ⟨em, en, eg, hy⟩ => q J n Gd Y M' G' H' s wk ?_
  subst em en
  refine ⟨fun i acc M2 => M2 = M' ∧ acc = dats ((l.take i).filterMap f), ⟨rfl, rfl⟩, fun _ _ M2 _ iv => eg M2 (iv.1 ▸ hg), fun i acc M2 hi ⟨_, e⟩ => ?_, fun i x acc M2 M3 hi ⟨e1, e2⟩ y => ?_, fun acc M2 ⟨e1, e2⟩ => .inl ⟨_, e2, ?_⟩⟩
  · rw [e, List.length_map]
    exact Nat.lt_of_le_of_lt (List.length_filterMap_le _ _) (by rw [List.length_take]; omega)
  · obtain ⟨e3, d, hd, ex⟩ := hy i x M2 M3 y
    obtain ⟨a, ha, rfl⟩ : ∃ a, l[i]? = some a ∧ enc a = d := by
      rw [List.getElem?_map] at hd
      cases q : l[i]? with
      | none => rw [q] at hd; cases hd
      | some a => rw [q] at hd; exact ⟨a, rfl, Option.some.inj hd⟩
    subst e1 e2 e3 ex
    intro σ G H v sd I dv Q q
    refine h i a ha σ G H v sd I dv Q fun σ' ds' M' G' H' ag sd' s' ⟨em, ht⟩ => q σ' ds' M' G' H' ag sd' s' ?_
    subst em
    refine xt_mono ht fun b M4 ⟨em, eb, ht2⟩ => ?_
    subst em
    refine ⟨fun hb => xp_mono (ht2 hb) fun y M5 ⟨em, e, hf, ey⟩ => ⟨em, ?_⟩, fun hb => ⟨rfl, ?_⟩⟩
    · rw [ey, List.take_add_one, ha, List.filterMap_append, dats, dats, List.map_append]
      simp [hf]
    · rw [eb] at hb
      have hf : f a = none := by cases q : f a with | none => rfl | some _ => rw [q] at hb; cases hb
      rw [List.take_add_one, ha, List.filterMap_append]
      simp [hf]
  · subst e1
    rw [List.length_map, List.take_length]
    exact k
/-- .. that keeps all -/
theorem xp_mapW (f : α → PyData) (h1 : XiW K Gd0 wi ds M (l.map enc)) (hg : Gd0 M) (hl : l.length < 100000)
    (h : ∀ (i : Nat) (a : α), l[i]? = some a → Xg K g vs (.dat (enc a)) (wipeD ds vs) M fun ds2 M3 => M3 = M ∧ Xp K te ds2 M fun y M5 => M5 = M ∧ y = .dat (f a))
    (k : Φ (.dat (.list (l.map f))) M) : Xp K (tLc wi g tYes te vs) ds M Φ := by
  refine xp_lcW (fun d => some (f d)) h1 hg hl (fun i d hd => ?_) (by rw [List.filterMap_eq_map']; exact k)
  intro σ G H v sd I dv Q q
  refine h i d hd σ G H v sd I dv Q fun σ' ds' M' G' H' ag sd' s' ⟨em, ht⟩ => q σ' ds' M' G' H' ag sd' s' ⟨em, ?_⟩
  exact xt_yes ⟨rfl, rfl, fun _ => xp_mono ht fun y M5 ⟨e, ey⟩ => ⟨e, _, rfl, ey⟩⟩
/-- two clauses -/
theorem xp_lc2W (ys : α → List β) (encB : β → PyData) (f : α → β → PyData) (h1 : XiW K Gd0 wi ds M (l.map enc)) (hg : Gd0 M)
    (h : ∀ (i : Nat) (a : α), l[i]? = some a → Xg K g vs (.dat (enc a)) (wipeD ds vs) M fun ds2 M3 => M3 = M ∧ Gd1 M ∧ XiW K Gd1 wi1 ds2 M ((ys a).map encB) ∧ ∀ (j : Nat) (b : β), (ys a)[j]? = some b → Xg K g1 vs1 (.dat (encB b)) (wipeD ds2 vs1) M fun ds3 M4 => M4 = M ∧ Xp K te ds3 M fun y M5 => M5 = M ∧ y = .dat (f a b))
    (hl : (l.flatMap fun d => (ys d).map (f d)).length < 100000) (k : Φ (.dat (.list (l.flatMap fun d => (ys d).map (f d)))) M) : Xp K (tLc2 wi g tYes wi1 g1 tYes te vs vs1) ds M Φ := by
  have part : ∀ i, ((l.take i).flatMap fun d => (ys d).map (f d)).length ≤ (l.flatMap fun d => (ys d).map (f d)).length := fun i => by
    conv => rhs; rw [← List.take_append_drop i l, List.flatMap_append, List.length_append]
    omega
  refine xp_lc2 fun σ G H sd I R q => h1 σ G H sd I R fun J n Gd Y M' G' H' s wk ⟨em, en, eg, hy⟩ => q J n Gd Y M' G' H' s wk ?_
  subst em en
  refine ⟨fun i acc M2 => M2 = M' ∧ acc = dats ((l.take i).flatMap fun d => (ys d).map (f d)), ⟨rfl, rfl⟩, fun _ _ M2 _ iv => eg M2 (iv.1 ▸ hg), fun i x acc M2 M3 hi ⟨e1, e2⟩ y => ?_, fun acc M2 ⟨e1, e2⟩ => .inl ⟨_, e2, ?_⟩⟩
  · obtain ⟨e3, d, hd, ex⟩ := hy i x M2 M3 y
    obtain ⟨a, ha, rfl⟩ : ∃ a, l[i]? = some a ∧ enc a = d := by
      rw [List.getElem?_map] at hd
      cases q : l[i]? with
      | none => rw [q] at hd; cases hd
      | some a => rw [q] at hd; exact ⟨a, rfl, Option.some.inj hd⟩
    subst e1 e3 ex
    intro σ G H v sd I dv Q q
    refine h i a ha σ G H v sd I dv Q fun σ' ds' M' G' H' ag sd' s' ⟨em, hg1, hw, ht⟩ => q σ' ds' M' G' H' ag sd' s' ?_
    subst em
    have next : ((l.take (i + 1)).flatMap fun d => (ys d).map (f d)) = ((l.take i).flatMap fun d => (ys d).map (f d)) ++ (ys a).map (f a) := by
      rw [List.take_add_one, ha, List.flatMap_append]; simp
    refine xt_yes ⟨fun _ => ?_, fun h => by cases h⟩
    intro σ1 G1 H1 sd1 I1 R1 q1
    refine hw σ1 G1 H1 sd1 I1 R1 fun J1 n1 Gd1 Y1 M4 G4 H4 s4 wk1 ⟨em, en, eg1, hy1⟩ => q1 J1 n1 Gd1 Y1 M4 G4 H4 s4 wk1 ?_
    subst em en
    refine ⟨fun j acc1 M5 => M5 = M4 ∧ acc1 = acc ++ dats (((ys a).take j).map (f a)), ⟨rfl, by simp⟩, fun _ _ M2 _ iv => eg1 M2 (iv.1 ▸ hg1), fun j acc1 M5 hj ⟨_, e⟩ => ?_, fun j x1 acc1 M5 M6 hj ⟨e1, e3⟩ y1 => ?_, fun acc1 M5 ⟨e1, e3⟩ => ⟨e1, ?_⟩⟩
    · have := part (i + 1)
      rw [next, List.length_append, List.length_map] at this
      rw [e, e2, List.length_append, List.length_map, List.length_map, List.length_map, List.length_take]
      omega
    · obtain ⟨e4, d1, hd1, ex⟩ := hy1 j x1 M5 M6 y1
      obtain ⟨b, hb, rfl⟩ : ∃ b, (ys a)[j]? = some b ∧ encB b = d1 := by
        rw [List.getElem?_map] at hd1
        cases q : (ys a)[j]? with
        | none => rw [q] at hd1; cases hd1
        | some b => rw [q] at hd1; exact ⟨b, rfl, Option.some.inj hd1⟩
      subst e1 e4 ex
      intro σ G H v sd I dv Q q
      refine ht j b hb σ G H v sd I dv Q fun σ' ds' M' G' H' ag sd' s' ⟨em, hx⟩ => q σ' ds' M' G' H' ag sd' s' ?_
      subst em
      refine xt_yes ⟨fun _ => xp_mono hx fun y M5 ⟨em, ey⟩ => ⟨em, ?_⟩, fun h => by cases h⟩
      rw [ey, e3, List.take_add_one, hb, List.map_append, dats, dats, List.map_append, List.append_assoc]
      rfl
    · rw [e3, List.length_map, List.take_length, e2, next, dats, dats, dats, List.map_append]
  · subst e1
    rw [List.length_map, List.take_length]
    exact k
end
/-- a for over data -/
theorem xs_forW {α : Type} {l : List α} {enc : α → PyData} {ds : DS} {M : MH} {Δ : XE} {wi : TI} {g : TG} {t : TS} {Gd0 : MH → Prop} (vs : List Nat) (Iv : Nat → DS → MH → Prop) (h1 : XiW K Gd0 wi ds M (l.map enc)) (hg : ∀ i ds' M', Iv i ds' M' → Gd0 M') (beg : Iv 0 ds M)
    (turn : ∀ (i : Nat) (a : α) (ds' : DS) (M' : MH), l[i]? = some a → Iv i ds' M' → Xg K g vs (.dat (enc a)) ds' M' fun ds2 M3 => Xs K t ds2 M3 { Δ with nx := Iv (i + 1), ct := Iv (i + 1), bk := Δ.nx }) (fin : ∀ ds' M', Iv l.length ds' M' → Δ.nx ds' M') : Xs K (tFor wi g t) ds M Δ := by
  refine xs_for fun σ G H sd I R q => h1 σ G H sd I R fun J n Gd Y M' G' H' s wk ⟨em, en, eg, hy⟩ => q J n Gd Y M' G' H' s wk ?_
  subst em en
  refine ⟨vs, Iv, beg, fun _ _ M2 _ iv => eg M2 (hg _ _ _ iv), fun i x ds' M2 M3 hi iv y => ?_, by rw [List.length_map]; exact fin⟩
  obtain ⟨e3, d, hd, ex⟩ := hy i x M2 M3 y
  obtain ⟨a, ha, rfl⟩ : ∃ a, l[i]? = some a ∧ enc a = d := by
    rw [List.getElem?_map] at hd
    cases q : l[i]? with
    | none => rw [q] at hd; cases hd
    | some a => rw [q] at hd; exact ⟨a, rfl, Option.some.inj hd⟩
  subst e3 ex
  exact turn i a ds' M3 ha iv
section
variable {ds : DS} {M : MH} {Φ : Ds → MH → Prop} {wi wi1 : TI} {g g1 : TG} {tt : TT} {te : TE} {vs vs1 : List Nat} {α β : Type} {l : List α} {enc : α → PyData}
theorem xp_lcD (f : α → Option PyData) (h1 : XiD K wi ds M (l.map enc)) (hl : l.length < 100000)
    (h : ∀ (i : Nat) (a : α), l[i]? = some a → Xg K g vs (.dat (enc a)) (wipeD ds vs) M fun ds2 M3 => M3 = M ∧ Xt K tt ds2 M fun b M4 => M4 = M ∧ b = (f a).isSome ∧ (b = true → Xp K te ds2 M fun y M5 => M5 = M ∧ ∃ e, f a = some e ∧ y = .dat e))
    (k : Φ (.dat (.list (l.filterMap f))) M) : Xp K (tLc wi g tt te vs) ds M Φ := xp_lcW f h1 trivial hl h k
theorem xp_mapD (f : α → PyData) (h1 : XiD K wi ds M (l.map enc)) (hl : l.length < 100000)
    (h : ∀ (i : Nat) (a : α), l[i]? = some a → Xg K g vs (.dat (enc a)) (wipeD ds vs) M fun ds2 M3 => M3 = M ∧ Xp K te ds2 M fun y M5 => M5 = M ∧ y = .dat (f a))
    (k : Φ (.dat (.list (l.map f))) M) : Xp K (tLc wi g tYes te vs) ds M Φ := xp_mapW f h1 trivial hl h k
theorem xp_lc2D (ys : α → List β) (encB : β → PyData) (f : α → β → PyData) (h1 : XiD K wi ds M (l.map enc))
    (h : ∀ (i : Nat) (a : α), l[i]? = some a → Xg K g vs (.dat (enc a)) (wipeD ds vs) M fun ds2 M3 => M3 = M ∧ XiD K wi1 ds2 M ((ys a).map encB) ∧ ∀ (j : Nat) (b : β), (ys a)[j]? = some b → Xg K g1 vs1 (.dat (encB b)) (wipeD ds2 vs1) M fun ds3 M4 => M4 = M ∧ Xp K te ds3 M fun y M5 => M5 = M ∧ y = .dat (f a b))
    (hl : (l.flatMap fun d => (ys d).map (f d)).length < 100000) (k : Φ (.dat (.list (l.flatMap fun d => (ys d).map (f d)))) M) : Xp K (tLc2 wi g tYes wi1 g1 tYes te vs vs1) ds M Φ := xp_lc2W (Gd1 := fun _ => True) ys encB f h1 trivial (fun i a hi σ G H v sd I dv Q q => h i a hi σ G H v sd I dv Q fun σ' ds' M' G' H' ag sd' s' ⟨em, hw, ht⟩ => q σ' ds' M' G' H' ag sd' s' ⟨em, trivial, hw, ht⟩) hl k
end
theorem xs_forD {α : Type} {l : List α} {enc : α → PyData} {ds : DS} {M : MH} {Δ : XE} {wi : TI} {g : TG} {t : TS} (vs : List Nat) (Iv : Nat → DS → MH → Prop) (h1 : XiD K wi ds M (l.map enc)) (beg : Iv 0 ds M)
    (turn : ∀ (i : Nat) (a : α) (ds' : DS) (M' : MH), l[i]? = some a → Iv i ds' M' → Xg K g vs (.dat (enc a)) ds' M' fun ds2 M3 => Xs K t ds2 M3 { Δ with nx := Iv (i + 1), ct := Iv (i + 1), bk := Δ.nx }) (fin : ∀ ds' M', Iv l.length ds' M' → Δ.nx ds' M') : Xs K (tFor wi g t) ds M Δ := xs_forW vs Iv h1 (fun _ _ _ _ => trivial) beg turn fin
/-- ranges, told by their numbers -/
theorem rngD0 (n : Nat) : rngD 0 n = (List.range n).map fun i => .int (i : Nat) := by
  unfold rngD
  exact List.map_congr_left fun i _ => by rw [Int.zero_add]
end K62
end
section
set_option Elab.async false
set_option linter.all false
set_option maxRecDepth 100000
set_option maxHeartbeats 4000000
set_option autoImplicit false
namespace K62
open PySem L2
variable {K : PySem.W.Frag}
/-! ### to forget what changes -/
def Sub (M M' : MH) : Prop := ∀ b o, M b = some o → M' b = some o
theorem Sub.refl (M : MH) : Sub M M := fun _ _ h => h
theorem Sub.trans {M M' M2 : MH} (a : Sub M M') (b : Sub M' M2) : Sub M M2 := fun p o h => b p o (a p o h)
theorem Sub.new {M M' : MH} {p : Addr} {o : MO} (h : Sub M M') (hp : M p = none) : Sub M (M'.up p o) := fun b u e => by
  rw [MH.up_ne (MH.ne e hp)]; exact h b u e
theorem Sub.up {M : MH} {p : Addr} {o : MO} (hp : M p = none) : Sub M (M.up p o) := (Sub.refl M).new hp
theorem Sub.none {M M' : MH} {p : Addr} (h : Sub M M') (hp : M' p = none) : M p = none := by
  cases e : M p with
  | none => rfl
  | some o => rw [h p o e] at hp; cases hp
theorem Sub.set {M M' : MH} {p : Addr} {o : MO} (h : Sub M M') : Sub (M.up p o) (M'.up p o) := fun b u e => by
  by_cases z : b = p
  · subst z; rw [MH.up_same] at e ⊢; exact e
  · rw [MH.up_ne z] at e ⊢; exact h b u e
theorem Stp.sub {G H : Hp} {M M0 : MH} (I : Inn K G M H) (h : Sub M0 M) : Stp K M G H M0 G H :=
  ⟨Same.refl _, fun _ _ _ e => e, ⟨I.ex, fun p m e => I.ob p m (h p m e)⟩, fun a e _ => h.none e, fun _ e _ _ => e⟩
theorem xp_sub {te : TE} {ds : DS} {M : MH} {Φ : Ds → MH → Prop} (h : Xp K te ds M fun x M1 => ∃ M2, Sub M2 M1 ∧ Φ x M2) : Xp K te ds M Φ := fun σ G H sd I Q q =>
  h σ G H sd I Q fun v x M1 G1 H1 s1 d ⟨M2, z, k⟩ => q v x M2 G1 H1 (s1.trans (.sub s1.inn z)) d k
theorem xs_sub {t : TS} {ds : DS} {M M0 : MH} {Δ : XE} (z : Sub M0 M) (h : Xs K t ds M0 Δ) : Xs K t ds M Δ := fun σ G H sd I D e => h σ G H sd (Stp.sub I z).inn D (e.step (.sub I z))
/-- a body that gives all back as it was -/
theorem xs_pure {t : TS} {ds : DS} {M : MH} {Φ : Ds → MH → Prop} (h : Xs K t ds M { nx := fun _ M' => Sub M M' ∧ Φ (.dat .none) M, rt := fun x M' => Sub M M' ∧ Φ x M }) : Xs K t ds M { nx := fun _ M' => Φ (.dat .none) M', rt := Φ } := fun σ G H sd I D e =>
  h σ G H sd I D ⟨fun σ' ds' M' G' H' s d ⟨z, k⟩ => e.nx σ' ds' M G' H' (s.trans (.sub s.inn z)) d k, fun v x M' G' H' s d ⟨z, k⟩ => e.rt v x M G' H' (s.trans (.sub s.inn z)) d k, fun _ _ _ _ _ _ _ z => z.elim, fun _ _ _ _ _ _ _ z => z.elim⟩
/-! ### tables that change -/
abbrev Tbl := List (List Int)
abbrev rowM (r : List Int) : MO := .lst (dats (nums r))
structure TabQ (M : MH) (p : Addr) (qs : List Addr) (S : Tbl) : Prop where
  top : M p = some (.lst (qs.map .adr))
  row : ∀ (i : Nat) (q : Addr) (r : List Int), qs[i]? = some q → S[i]? = some r → M q = some (rowM r)
  len : qs.length = S.length
  nd : qs.Nodup
  ne : p ∉ qs
section
variable {M M' : MH} {p : Addr} {qs : List Addr} {S : Tbl}
theorem TabQ.at (h : TabQ M p qs S) {i : Nat} {r : List Int} (hr : S[i]? = some r) : ∃ q, qs[i]? = some q ∧ M q = some (rowM r) := by
  have hl : i < qs.length := by rw [h.len]; exact (List.getElem?_eq_some_iff.mp hr).1
  exact ⟨qs[i], List.getElem?_eq_getElem hl, h.row i _ r (List.getElem?_eq_getElem hl) hr⟩
theorem TabQ.frame (h : TabQ M p qs S) (e : ∀ b, b = p ∨ b ∈ qs → M' b = M b) : TabQ M' p qs S :=
  ⟨by rw [e p (.inl rfl)]; exact h.top, fun i q r hq hr => by rw [e q (.inr (List.mem_of_getElem? hq))]; exact h.row i q r hq hr, h.len, h.nd, h.ne⟩
theorem TabQ.inM (h : TabQ M p qs S) {b : Addr} (hb : b = p ∨ b ∈ qs) : M b ≠ none := by
  rcases hb with rfl | hb
  · rw [h.top]; exact fun z => by cases z
  · obtain ⟨i, hi⟩ := List.mem_iff_getElem?.mp hb
    have hl : i < S.length := by rw [← h.len]; exact (List.getElem?_eq_some_iff.mp hi).1
    rw [h.row i b _ hi (List.getElem?_eq_getElem hl)]
    exact fun z => by cases z
theorem TabQ.sub (h : TabQ M p qs S) (e : Sub M M') : TabQ M' p qs S := h.frame fun b hb => by
  have := h.inM hb
  cases q : M b with
  | none => exact absurd q this
  | some o => exact e b o q
theorem TabQ.up (h : TabQ M p qs S) {z : Addr} {o : MO} (h1 : z ≠ p) (h2 : z ∉ qs) : TabQ (M.up z o) p qs S := h.frame fun b hb => MH.up_ne (by
  rcases hb with rfl | hb
  · exact fun e => h1 e.symm
  · exact fun e => h2 (e ▸ hb))
theorem TabQ.new (h : TabQ M p qs S) {z : Addr} {o : MO} (hz : M z = none) : TabQ (M.up z o) p qs S := h.sub (.up hz)
theorem nodup_at {α : Type} {l : List α} {i j : Nat} {x : α} (h : l.Nodup) (hi : l[i]? = some x) (hj : l[j]? = some x) : i = j := by
  obtain ⟨i1, i2⟩ := List.getElem?_eq_some_iff.mp hi
  obtain ⟨j1, j2⟩ := List.getElem?_eq_some_iff.mp hj
  have q := List.pairwise_iff_getElem.mp h
  rcases Nat.lt_trichotomy i j with z | z | z
  · exact absurd (i2.trans j2.symm) (q i j i1 j1 z)
  · exact z
  · exact absurd (j2.trans i2.symm) (q j i j1 i1 z)
/-- S[i][j] = v -/
def put2 (S : Tbl) (i j : Nat) (v : Int) : Tbl := S.set i ((S.getD i []).set j v)
theorem TabQ.put (h : TabQ M p qs S) {i j : Nat} {q : Addr} {r : List Int} (v : Int) (hq : qs[i]? = some q) (hr : S[i]? = some r) : TabQ (M.up q (.lst ((dats (nums r)).set j (.dat (.int v))))) p qs (put2 S i j v) := by
  have hqm := List.mem_of_getElem? hq
  refine ⟨?_, fun k q' r' hq' hr' => ?_, by unfold put2; rw [List.length_set]; exact h.len, h.nd, h.ne⟩
  · rw [MH.up_ne fun e => h.ne (by rw [e]; exact hqm)]; exact h.top
  · unfold put2 at hr'
    rw [List.getD_eq_getElem?_getD, hr, Option.getD_some] at hr'
    by_cases z : i = k
    · subst z
      rw [hq] at hq'
      obtain rfl := Option.some.inj hq'
      rw [List.getElem?_set_self (List.getElem?_eq_some_iff.mp hr).1] at hr'
      obtain rfl := Option.some.inj hr'
      rw [MH.up_same, rowM, dats, dats, nums, nums, List.map_set, List.map_set]
    · rw [List.getElem?_set_ne z] at hr'
      rw [MH.up_ne, h.row k q' r' hq' hr']
      intro e
      subst e
      exact z (nodup_at h.nd hq hq')
end
/-- S[i][j] -/
theorem xp_cellM {ds : DS} {M : MH} {Φ : Ds → MH → Prop} {tt ti tj : TE} {p : Addr} {qs : List Addr} {S : Tbl} {r : List Int} {v : Int} {i j : Nat} (hr : S[i]? = some r) (hv : r[j]? = some v)
    (h : Xp K tt ds M fun x M1 => x = .adr p ∧ Xp K ti ds M1 fun y M2 => y = .dat (.int i) ∧ TabQ M2 p qs S ∧ Xp K tj ds M2 fun z M3 => z = .dat (.int j) ∧ TabQ M3 p qs S ∧ Φ (.dat (.int v)) M3) :
    Xp K (tOp (rIx K) (tOp (rIx K) tt ti) tj) ds M Φ := by
  refine xp_op (xp_op (xp_mono h fun x M1 ⟨e, h2⟩ => xp_mono h2 fun y M2 ⟨e2, hT, h3⟩ => ?_))
  subst e e2
  obtain ⟨q, hq, hm⟩ := hT.at hr
  refine xo_ixM (x := .adr q) hT.top (at_nat (by rw [List.getElem?_map, hq]; rfl)) (xp_mono h3 fun z M3 ⟨e3, hT3, k⟩ => ?_)
  subst e3
  have hm3 := hT3.row i q r hq hr
  refine xo_ixM hm3 (at_nat (x := .dat (.int v)) ?_) k
  rw [List.getElem?_map, List.getElem?_map, hv]; rfl
/-- a table that changes no more is data -/
theorem freeze_rows {G H : Hp} : ∀ {M : MH} {G : Hp} (qs : List Addr) (S : Tbl), Inn K G M H → qs.Nodup → qs.length = S.length → (∀ (i : Nat) (q : Addr) (r : List Int), qs[i]? = some q → S[i]? = some r → M q = some (rowM r)) →
    ∃ M' G', Stp K M G H M' G' H ∧ (∀ b, b ∉ qs → M' b = M b) ∧ (∀ b, b ∈ qs → M' b = none) ∧ DaAll G' (qs.map V.ref) (S.map fun r => .list (nums r))
  | M, G, [], [], I, _, _, _ => ⟨M, G, .refl I, fun _ _ => rfl, fun b hb => (by cases hb), .nil⟩
  | _, _, [], _ :: _, _, _, hl, _ => by simp at hl
  | _, _, _ :: _, [], _, _, hl, _ => by simp at hl
  | M, G, q :: qs, r :: S, I, hn, hl, hr => by
    have h0 := hr 0 q r rfl rfl
    obtain ⟨hq, hn'⟩ := List.nodup_cons.mp hn
    obtain ⟨G1, s1, d1⟩ := Stp.freeze I h0
    obtain ⟨M2, G2, s2, e2, n2, d2⟩ := freeze_rows (M := M.del q) (G := G1) qs S s1.inn hn' (by simpa using hl) fun i q' r' hi hi' => by
      have hm := hr (i + 1) q' r' (by simpa using hi) (by simpa using hi')
      unfold MH.del
      rw [if_neg fun e : q' = q => hq (e ▸ List.mem_of_getElem? hi)]
      exact hm
    refine ⟨M2, G2, s1.trans s2, fun b hb => ?_, fun b hb => ?_, .cons (d1.mono s2.gg) d2⟩
    · rw [e2 b fun h => hb (List.mem_cons_of_mem _ h)]
      unfold MH.del
      rw [if_neg fun e : b = q => hb (e ▸ List.mem_cons_self ..)]
    · rcases List.mem_cons.mp hb with rfl | hb
      · rw [e2 b hq]; unfold MH.del; rw [if_pos rfl]
      · exact n2 b hb
theorem refs_of {G : Hp} : ∀ {qs : List Addr} {vs : List V}, DvAll K G vs (qs.map .adr) → vs = qs.map V.ref
  | [], _, .nil => rfl
  | q :: qs, _, .cons h hs => by cases h; rw [refs_of hs]; rfl
theorem Stp.freezeT {G H : Hp} {M M0 : MH} {p : Addr} {qs : List Addr} {S : Tbl} (I : Inn K G M H) (h : TabQ M p qs S) (h0 : ∀ b o, M0 b = some o → M b = some o ∧ b ≠ p ∧ b ∉ qs) : ∃ G', Stp K M G H M0 G' H ∧ Da G' (.ref p) (.list (S.map fun r => .list (nums r))) := by
  obtain ⟨M1, G1, s1, e1, n1, d1⟩ := freeze_rows (G := G) (H := H) qs S I h.nd h.len h.row
  have hp1 : M1 p = some (.lst (qs.map .adr)) := by rw [e1 p h.ne]; exact h.top
  obtain ⟨_, o, eo, m⟩ := s1.inn.ob p _ hp1
  obtain ⟨vs, rfl, hv⟩ := m.lst
  obtain rfl := refs_of hv
  have s2 := Stp.put (K := K) (G := G1) (H := H) s1.inn hp1 (o := .lst (qs.map V.ref)) (m := .lst (dats (S.map fun r => .list (nums r)))) (DaAll.dv d1)
  have eH : upd H p (.lst (qs.map V.ref)) = H := by
    funext b
    by_cases z : b = p
    · subst z; rw [upd_same, eo]
    · rw [upd_ne z]
  rw [eH] at s2
  obtain ⟨G3, s3, d3⟩ := Stp.freeze s2.inn (p := p) (ds := S.map fun r => .list (nums r)) MH.up_same
  refine ⟨G3, (s1.trans (s2.trans s3)).trans (.sub s3.inn fun b o e => ?_), d3⟩
  obtain ⟨h1, h2, h3⟩ := h0 b o e
  unfold MH.del
  rw [if_neg h2, MH.up_ne h2, e1 b h3]
  exact h1
theorem xp_frzT {te : TE} {ds : DS} {M : MH} {Φ : Ds → MH → Prop} (h : Xp K te ds M fun x M1 => ∃ p qs S M0, x = .adr p ∧ TabQ M1 p qs S ∧ (∀ b o, M0 b = some o → M1 b = some o ∧ b ≠ p ∧ b ∉ qs) ∧ Φ (.dat (.list (S.map fun r => .list (nums r)))) M0) : Xp K te ds M Φ := fun σ G H sd I Q q =>
  h σ G H sd I _ fun u x M1 G1 H1 s1 d1 ⟨p, qs, S, M0, e, hT, h0, k⟩ => by
    subst e
    obtain ⟨G2, s2, d2⟩ := Stp.freezeT s1.inn hT h0
    cases d1
    exact q _ (.dat _) _ _ _ (s1.trans s2) d2 k
/-! ### walks over a list that may change, of data -/
section
variable {ds : DS} {M : MH} {te : TE} {ar : TA}
theorem xw_listM {p : Addr} {xs : List PyData} (h : Xp K te ds M fun x M1 => x = .adr p ∧ M1 = M) (hp : M p = some (.lst (dats xs))) : XiW K (fun M' => M' p = some (.lst (dats xs))) (iList K te) ds M xs :=
  xi_listM (xp_mono h fun x M1 ⟨e, em⟩ => ⟨p, dats xs, e, em ▸ hp, em, by rw [List.length_map], fun _ h => h, yi_dat⟩)
theorem xi_enumMD {Φ : Nat → (MH → Prop) → (Nat → Ds → MH → MH → Prop) → MH → Prop} (h : Xa K ar ds M fun xs M1 => ∃ p es, xs = [.adr p] ∧ M1 p = some (.lst (dats es)) ∧ Φ es.length (fun M' => M' p = some (.lst (dats es))) (YE es) M1) : Xi K (iEnum K ar) ds M Φ := fun σ G H sd I R q =>
  h σ G H sd I _ fun v x M1 G1 H1 s1 d1 ⟨p, es, e, hp, k⟩ => by
    subst e
    cases d1 with
    | cons d1 d2 =>
      cases d2
      cases d1
      obtain ⟨_, o, eo, m⟩ := s1.inn.ob p _ hp
      obtain ⟨us, rfl, hv⟩ := m.lst
      refine ⟨_, us, rfl, SqL.of eo, q _ _ _ _ M1 G1 H1 s1 ⟨fun i M G H hi g I gd => ?_, fun M G H g I gd => ?_, fun i M G H v H' hi g I gd y => ?_⟩ k⟩
      · obtain ⟨_, o, eo, m⟩ := I.ob p _ gd
        obtain ⟨us, rfl, hv⟩ := m.lst
        have := hv.da.length
        exact ⟨us, us[i]'(by omega), SqL.of eo, by simp [show i < us.length by omega]⟩
      · obtain ⟨_, o, eo, m⟩ := I.ob p _ gd
        obtain ⟨us, rfl, hv⟩ := m.lst
        have := hv.da.length
        exact ⟨us, SqL.of eo, by omega⟩
      · obtain ⟨_, o, eo, m⟩ := I.ob p _ gd
        obtain ⟨us, rfl, hv⟩ := m.lst
        obtain ⟨T, x, rfl, hT, rfl, y⟩ := y
        obtain ⟨z, h1, h2⟩ := Paired.at1 hv (y us (SqL.of eo))
        rw [List.getElem?_map] at h1
        cases e : es[i]? with
        | none => rw [e] at h1; cases h1
        | some d =>
          rw [e] at h1; cases h1
          have s := Stp.newD I (o := .tup [.int (i : Nat), x]) hT
          exact ⟨.dat (.tuple [.int i, d]), M, _, s, Da.tup upd_same (.cons (.int _) (.cons (Da.mono s.gg h2) .nil)), ⟨d, e, rfl⟩, rfl⟩
theorem xw_enumM {p : Addr} {xs : List PyData} (h : Xa K ar ds M fun ys M1 => ys = [.adr p] ∧ M1 = M) (hp : M p = some (.lst (dats xs))) : XiW K (fun M' => M' p = some (.lst (dats xs))) (iEnum K ar) ds M (enumD xs) :=
  xi_enumMD fun σ G H sd I Q q => h σ G H sd I Q fun vs ys M' G' H' s d ⟨e, em⟩ => q vs ys M' G' H' s d ⟨p, xs, e, em ▸ hp, em, by rw [enumD_len], fun _ h => h, fun i x M2 M3 ⟨⟨d, hd, ex⟩, e3⟩ => ⟨e3, _, enumD_at hd, ex⟩⟩
end
end K62
end
section
set_option Elab.async false
set_option linter.all false
set_option maxRecDepth 100000
set_option maxHeartbeats 4000000
set_option autoImplicit false
namespace K62
open PySem PySem.Spec PyProof.Rows L2
/-! ### a dict written with one tuple key -/
def tDisp1T (tk tv : TE) : TE := fun σ H Q => ∀ p, H p = none → tk σ (upd H p (.dT [])) fun x H1 => tv σ H1 fun y H2 => H2 p = some (.dT []) ∧ ∃ (k : List L2.Key) (b : Addr), x = .ref b ∧ H2 b = some (.tup (k.map kV)) ∧ Q (.ref p) (upd H2 p (.dT [(k, y)]))
theorem pe_disp1T {X : Cx} {pos : Pos} {ek ev : Expr} {tk tv : TE} (hu : X.A.units + 1 < cLine) (hk : PE X ek tk) (hv : PE X ev tv) : PE X (.Dict [some ek] [ev] pos) (tDisp1T tk tv) := by
  refine ⟨fun pins s σ H Q I q => ?_⟩
  have hn := I.hok.fresh (Nat.le_refl s.heap.objs.size)
  have I1 := I.laid (a := s.heap.objs.size) (o := .dT []) (h' := s.heap.push { cls := .type "dict", data := .dict #[] }) (t' := s.toks) (fun _ _ q => Heap.get?_push_of_some _ q) (Nat.le_refl _) (dt_empty s.heap I.big)
  have pp : PPs X pos [some ek] [ev] [(tk, tv)] := pps_cons hk hv pps_nil
  refine wpAny_Dict_any rfl rfl (fun z => (by cases z)) (show 1 ≤ 15 by decide) (thn (pp.run pins _ σ _ (fun ps H2 => match ps with
    | [(x, y)] => H2 s.heap.objs.size = some (.dT []) ∧ ∃ (k : List L2.Key) (b : Addr), x = .ref b ∧ H2 b = some (.tup (k.map kV)) ∧ Q (.ref s.heap.objs.size) (upd H2 s.heap.objs.size (.dT [(k, y)]))
    | _ => False) I1 (q _ hn)) fun ws s2 ⟨ps, H2, I2, rel, h0⟩ => ?_)
  match ps, h0, rel with
  | [(x, y)], ⟨e, k, b, ex, eb, q2⟩, rel =>
    subst ex
    cases rel with
    | @cons _ w2 _ _ h t =>
      cases t
      obtain ⟨u, r⟩ := w2
      cases (show u = Value.ref b from h.1)
      obtain ⟨z, hd, xs, rk, dd⟩ := dt_of I2.hok e
      cases rk
      unfold storeAll
      rw [List.forIn_cons]
      refine wpAny_bind (wpAny_bind (wpAny_dictSet_heap (hsz := Nat.zero_le _) (knd := tupleKind (mixKind X.prog X.w)) (by show X.A.units < cLine; omega) (key_of I2.hok eb) dd fun h' dd' hs => wpAny_pure ?_))
      dsimp only
      rw [List.forIn_nil]
      refine wpAny_pure ⟨.ref s.heap.objs.size, _, ?_, rfl, q2⟩
      obtain ⟨o, es, ep, ho, h2, h3, h4, _, h5⟩ := dd'
      refine d_write I2 (by rw [e]; exact True.intro) hs ⟨o, ho⟩ ⟨by rw [sizeLine_eq]; exact (show 1 ≤ 16777216 by decide), hd, _, .cons ⟨rfl, ?_, h.2⟩ .nil, o, es, ep, ho, h2, h3, h4, h5⟩
      rw [upd_ne (ne_of eb e (fun z => nomatch z))]
      exact eb
theorem xp_disp1T {K : PySem.W.Frag} {ds : DS} {M : MH} {Φ : Ds → MH → Prop} {tk tv : TE} (h : ∀ p, M p = none → Xp K tk ds (M.up p (.dT [])) fun y M1 => Xp K tv ds M1 fun x M2 => ∃ k : List L2.Key, y = .dat (.tuple (k.map kD)) ∧ M2 p = some (.dT []) ∧ Φ (.adr p) (M2.up p (.dT [(k, x)]))) : Xp K (tDisp1T tk tv) ds M Φ := fun σ G H sd I Q q p hp => by
  have hm : MOk K G (.dT []) (.dT []) := Paired.nil
  have s0 := Stp.newM I (o := .dT []) (m := .dT []) hp hm
  refine h p (I.no hp) σ G _ sd s0.inn _ fun w y M1 G1 H1 s1 d1 h1 => h1 σ G1 H1 (sd.mono s1.gg) s1.inn _ fun v x M2 G2 H2 s2 d2 ⟨k, ey, hp2, kk⟩ => ?_
  subst ey
  obtain ⟨_, ob, e1, m⟩ := s2.inn.ob p _ hp2
  obtain ⟨kvs, rfl, hv⟩ := m.dT
  cases hv
  cases (Dv.mono s2.gg d1) with
  | tup hb hd =>
    obtain rfl := kDs_inv hd
    have hm3 : MOk K G2 (.dT [(k, v)]) (.dT [(k, x)]) := .cons ⟨rfl, d2⟩ .nil
    have s3 := Stp.put s2.inn hp2 (o := .dT [(k, v)]) hm3
    exact ⟨e1, k, _, rfl, s2.inn.ex _ _ hb, q _ (.adr p) _ _ _ (((s0.trans s1).trans s2).trans s3) rfl kk⟩
end K62
end
section
set_option Elab.async false
set_option linter.all false
set_option maxRecDepth 100000
set_option maxHeartbeats 4000000
set_option autoImplicit false
namespace K62
open PySem L2
variable {K : PySem.W.Frag}
section
variable {Gd0 : MH → Prop} {ds : DS} {M : MH} {Φ : Ds → MH → Prop} {wi : TI} {g : TG} {tt : TT} {te : TE} {vs : List Nat} {α : Type} {l : List α} {enc : α → PyData}
/-- a comprehension over data that makes a list of data that is to change -/
theorem xp_mapWM (f : α → PyData) (h1 : XiW K Gd0 wi ds M (l.map enc)) (hg : Gd0 M) (hl : l.length < 100000)
    (h : ∀ (i : Nat) (a : α), l[i]? = some a → Xg K g vs (.dat (enc a)) (wipeD ds vs) M fun ds2 M3 => M3 = M ∧ Xp K te ds2 M fun y M5 => M5 = M ∧ y = .dat (f a))
    (k : ∀ q, M q = none → Φ (.adr q) (M.up q (.lst (dats (l.map f))))) : Xp K (tLc wi g tYes te vs) ds M Φ := by
  refine xp_lc fun σ G H sd I R q => h1 σ G H sd I R fun J n Gd Y M' G' H' s wk ⟨em, en, eg, hy⟩ => q J n Gd Y M' G' H' s wk ?_
  subst em en
  refine ⟨fun i acc M2 => M2 = M' ∧ acc = dats ((l.take i).map f), ⟨rfl, rfl⟩, fun _ _ M2 _ iv => eg M2 (iv.1 ▸ hg), fun i acc M2 hi ⟨_, e⟩ => ?_, fun i x acc M2 M3 hi ⟨e1, e2⟩ y => ?_, fun acc M2 ⟨e1, e2⟩ => .inr fun D hD => ?_⟩
  · rw [e, List.length_map, List.length_map, List.length_take]; omega
  · obtain ⟨e3, d, hd, ex⟩ := hy i x M2 M3 y
    obtain ⟨a, ha, rfl⟩ : ∃ a, l[i]? = some a ∧ enc a = d := by
      rw [List.getElem?_map] at hd
      cases q : l[i]? with
      | none => rw [q] at hd; cases hd
      | some a => rw [q] at hd; exact ⟨a, rfl, Option.some.inj hd⟩
    subst e1 e2 e3 ex
    intro σ G H v sd I dv Q q
    refine h i a ha σ G H v sd I dv Q fun σ' ds' M' G' H' ag sd' s' ⟨em, ht⟩ => q σ' ds' M' G' H' ag sd' s' ?_
    subst em
    refine xt_yes ⟨fun _ => xp_mono ht fun y M5 ⟨em, ey⟩ => ⟨em, ?_⟩, fun h => by cases h⟩
    rw [ey, List.take_add_one, ha, List.map_append, dats, dats, List.map_append]; rfl
  · subst e1 e2
    rw [List.length_map, List.take_length]
    exact k D hD
/-- a new table, row by row -/
theorem xp_mkT (rowf : α → List Int) (h1 : XiW K Gd0 wi ds M (l.map enc)) (hg : ∀ M', Sub M M' → Gd0 M') (hl : l.length < 100000)
    (h : ∀ (i : Nat) (a : α) (M' : MH), l[i]? = some a → Sub M M' → Xg K g vs (.dat (enc a)) (wipeD ds vs) M' fun ds2 M3 => M3 = M' ∧ Xp K te ds2 M' fun y M5 => ∃ q, y = .adr q ∧ M' q = none ∧ M5 = M'.up q (rowM (rowf a)))
    (k : ∀ p qs M', Sub M M' → M p = none → (∀ q ∈ qs, M q = none) → TabQ M' p qs (l.map rowf) → Φ (.adr p) M') : Xp K (tLc wi g tYes te vs) ds M Φ := by
  refine xp_lc fun σ G H sd I R q => h1 σ G H sd I R fun J n Gd Y M' G' H' s wk ⟨em, en, eg, hy⟩ => q J n Gd Y M' G' H' s wk ?_
  subst em en
  refine ⟨fun i acc M2 => ∃ qs : List Addr, acc = qs.map .adr ∧ qs.Nodup ∧ qs.length = (l.take i).length ∧ Sub M' M2 ∧ (∀ q ∈ qs, M' q = none) ∧ ∀ (j : Nat) (q : Addr) (r : List Int), qs[j]? = some q → ((l.take i).map rowf)[j]? = some r → M2 q = some (rowM r), ⟨[], rfl, .nil, rfl, .refl _, fun q h => (by cases h), fun j q r h => (by cases h)⟩, fun _ _ M2 _ ⟨_, _, _, _, z, _⟩ => eg M2 (hg M2 z), fun i acc M2 hi ⟨qs, e, _, e2, _⟩ => ?_, fun i x acc M2 M3 hi ⟨qs, e1, e2, e3, e4, e5, e6⟩ y => ?_, fun acc M2 ⟨qs, e1, e2, e3, e4, e5, e6⟩ => .inr fun D hD => ?_⟩
  · rw [e, List.length_map, e2, List.length_take]; omega
  · obtain ⟨em, d, hd, ex⟩ := hy i x M2 M3 y
    obtain ⟨a, ha, rfl⟩ : ∃ a, l[i]? = some a ∧ enc a = d := by
      rw [List.getElem?_map] at hd
      cases q : l[i]? with
      | none => rw [q] at hd; cases hd
      | some a => rw [q] at hd; exact ⟨a, rfl, Option.some.inj hd⟩
    subst em ex e1
    intro σ G H v sd I dv Q q
    refine h i a M3 ha e4 σ G H v sd I dv Q fun σ' ds' M' G' H' ag sd' s' ⟨em, ht⟩ => q σ' ds' M' G' H' ag sd' s' ?_
    subst em
    refine xt_yes ⟨fun _ => xp_mono ht fun y M5 ⟨z, ez, hz, em⟩ => ?_, fun h => by cases h⟩
    subst ez em
    have hz0 := e4.none hz
    have hzq : z ∉ qs := fun hm => by
      obtain ⟨j, hj⟩ := List.mem_iff_getElem?.mp hm
      have hl' : j < ((l.take i).map rowf).length := by rw [List.length_map, ← e3]; exact (List.getElem?_eq_some_iff.mp hj).1
      rw [e6 j z _ hj (List.getElem?_eq_getElem hl')] at hz
      cases hz
    refine ⟨qs ++ [z], by rw [List.map_append]; rfl, ?_, ?_, e4.new hz0, fun q hq => ?_, fun j q r hj hr => ?_⟩
    · refine List.nodup_append.mpr ⟨e2, by simp, fun a ha b hb => ?_⟩
      obtain rfl := List.mem_singleton.mp hb
      exact fun e => hzq (e ▸ ha)
    · rw [List.length_append, e3, List.take_add_one, ha, List.length_append]; rfl
    · rcases List.mem_append.mp hq with hq | hq
      · exact e5 q hq
      · obtain rfl := List.mem_singleton.mp hq; exact hz0
    · rw [List.take_add_one, ha, List.map_append] at hr
      have el : ((l.take i).map rowf).length = qs.length := by rw [List.length_map, e3]
      by_cases hjl : j < qs.length
      · rw [List.getElem?_append_left hjl] at hj
        rw [List.getElem?_append_left (by omega)] at hr
        rw [MH.up_ne fun e => hzq (by rw [← e]; exact List.mem_of_getElem? hj)]
        exact e6 j q r hj hr
      · rw [List.getElem?_append_right (by omega)] at hj hr
        rw [el] at hr
        obtain rfl := List.mem_singleton.mp (List.mem_of_getElem? hj)
        obtain rfl : r = rowf a := by simpa using List.mem_of_getElem? hr
        exact MH.up_same
  · subst e1
    rw [List.length_map, List.take_length] at e3 e6
    have hD0 := e4.none hD
    refine k D qs _ (e4.new hD0) hD0 e5 ⟨MH.up_same, fun j q r hj hr => ?_, by rw [e3, List.length_map], e2, fun hm => ?_⟩
    · rw [MH.up_ne fun e => ?_]
      · exact e6 j q r hj hr
      · subst e
        rw [e6 j _ r hj hr] at hD; cases hD
    · obtain ⟨j, hj⟩ := List.mem_iff_getElem?.mp hm
      have hl' : j < (l.map rowf).length := by rw [List.length_map, ← e3]; exact (List.getElem?_eq_some_iff.mp hj).1
      rw [e6 j D _ hj (List.getElem?_eq_getElem hl')] at hD
      cases hD
end
end K62
end
section
set_option Elab.async false
set_option linter.all false
set_option maxRecDepth 100000
set_option maxHeartbeats 4000000
set_option autoImplicit false
namespace K62
open PySem PySem.Spec PyProof.Rows L2
/-! ### min(xs, key=lambda one: ..) -/
/-- the code objects that the table at P tells bear the name nm -/
def Coded (H : Hp) (nm : Str) (ps : Array Value) : Prop := TriplesOk ps.toList ∧ ∀ (pos : Pos) (cv : Value), codeAmong pos ps.toList = some cv → ∃ c, cv = .ref c ∧ H c = some (LamX.CodeO c nm)
/-- what the making of a lambda may change of the tracked heap -/
inductive LamCh (H : Hp) (P : Addr) (nm : Str) (ps : Array Value) (c' : Addr) : Hp → Prop
  | old : H c' = some (LamX.CodeO c' nm) → LamCh H P nm ps c' H
  | new (more : Array Value) : H c' = none → TriplesOk (ps ++ more).toList → (∀ (pos : Pos) (cv : Value), codeAmong pos (ps ++ more).toList = some cv → codeAmong pos ps.toList = some cv ∨ cv = .ref c') → LamCh H P nm ps c' (upd (upd H P (.tbl (ps ++ more))) c' (LamX.CodeO c' nm))
section
variable {X : Cx} {pins : List (Addr × Obj)} {σ : L2.St} {H : Hp} {s : Shared}
theorem cloFrom_none {cells : List (Str × Addr)} : ∀ {l : List (Str × NameKind)} {acc : List (Str × Addr)}, (∀ y ∈ l, y.2 ≠ .free) → cloFrom cells l acc = acc
  | [], _, _ => rfl
  | (a, k) :: l, acc, h => by
    have hk : (k == NameKind.free) = false := by
      have := h (a, k) (List.mem_cons_self ..)
      cases k <;> first | rfl | exact absurd rfl this
    unfold cloFrom
    rw [hk]
    exact cloFrom_none fun y hy => h y (List.mem_cons_of_mem _ hy)
theorem lam_made {c P : Addr} {ps : Array Value} {params : Arguments} {body : Expr} {scope : Scope} {pos : Pos} {E : Value → Shared → Prop} {Q : Value → Shared → Prop} (I : Inv X pins σ H s) (tb : LamX.TabB X.base X.mg c P) (hcode : X.env.code = .ref c)
    (hP : H P = some (.tbl ps)) (hC : Coded H (X.env.qual ++ "<lambda>") ps) (hdef : defaultsOf params X.env = ([], [])) (nofree : ∀ y ∈ scope.names, y.2 ≠ .free)
    (go : ∀ (f c' : Addr) (pm ctv : Value) (H1 : Hp) (s1 : Shared), Inv X pins σ H1 s1 → LamCh H P (X.env.qual ++ "<lambda>") ps c' H1 → s1.heap.get? f = some (PySem.W.kla_obj "<lambda>" (X.env.qual ++ "<lambda>") params body scope [] pm c' ctv) → FpOk X pins H1 f → Q (.ref f) s1) :
    wpAny (model X.prog X.w) X.A (eval (.Lambda params body scope pos) X.env) Q E s := by
  have hbi := tb.bm.keeps I.bk
  have hPs : s.heap.get? P = some { cls := .none, data := .fields ps } := I.hok P _ hP
  have hclo : closureFor scope X.env = pure [] := by
    rw [closure_ok fun y hy e => absurd e (nofree y hy), cloFrom_none nofree]
  refine PySem.W.kla_eval hdef ?_
  cases found : codeAmong pos ps.toList with
  | some cv =>
    obtain ⟨c', rfl, hco⟩ := hC.2 pos cv found
    refine PySem.W.kla_makeFunctionHit (mg := X.mg) (c := c) (P := P) (ps := ps) hclo I.ok.glob (I.mod.glob.keeps I.bk) hcode (tb.code.keeps I.bk) hPs hC.1 found hbi fun ctv h1 tk kp big => ?_
    refine go h1.objs.size c' _ ctv H _ (I.kept fun b o e => Heap.get?_push_of_some _ (kp b o e)) (.old hco) (Heap.get?_push_size _ rfl) ?_
    exact I.fpOk big (I.hok.fresh big)
  | none =>
    refine PySem.W.kla_makeFunction (mg := X.mg) (c := c) (P := P) (ps := ps) hclo I.ok.glob (I.mod.glob.keeps I.bk) hcode (tb.code.keeps I.bk) hPs hC.1 found tb.gP hbi fun c' ctv h1 tk kp ge lt rec' tab => ?_
    obtain ⟨c2, oc, vs, t, e2, e3, e4, e5⟩ := rec'
    cases e2
    have big : s.heap.objs.size ≤ h1.objs.size := Nat.le_trans ge (Nat.le_of_lt lt)
    have freeC : H c' = none := I.hok.fresh ge
    have I1 := LamX.inv_table (t' := tk) (more := #[rawInt pos.line, rawInt pos.col, .ref c']) (h' := h1.push (PySem.W.kla_obj "<lambda>" (X.env.qual ++ "<lambda>") params body scope [] ((X.mg "__name__").getD .none) c' ctv)) I hP
      (fun b o hb e => Heap.get?_push_of_some _ (kp b o hb e)) (Heap.get?_push_of_some _ tab) ge ⟨oc, vs, t, Heap.get?_push_of_some _ e3, e4, e5⟩
    have nP : P ≠ c' := ne_of_none hP freeC
    have eL : (ps ++ #[rawInt pos.line, rawInt pos.col, .ref c']).toList = ps.toList ++ [rawInt pos.line, rawInt pos.col, .ref c'] := by simp
    refine go h1.objs.size c' _ ctv _ _ I1 (.new #[rawInt pos.line, rawInt pos.col, .ref c'] freeC (by rw [eL]; exact PySem.TriplesOk_snoc _ _ _ _ hC.1) fun pos' cv hcv => ?_) (Heap.get?_push_size _ rfl) ?_
    · rw [eL] at hcv
      exact LamX.among_app _ hC.1 hcv
    · have n1 : h1.objs.size ≠ c' := Nat.ne_of_gt lt
      have n2 : h1.objs.size ≠ P := Nat.ne_of_gt (Nat.lt_of_lt_of_le (Heap.lt_size hPs) big)
      refine I.fpOk big ?_
      rw [upd_ne n1, upd_ne n2]
      exact I.hok.fresh big
end
/-- the lambda is called on one value -/
theorem lam_called {P : Program} {w : World} {K : PySem.W.Frag} {mg : Str → Option Value} {base : Heap} {A : Around} {outer : List Env} {s : Shared} {H : Hp} {N : List Str} {x nm : Str} {params : Arguments} {body : Expr} {scope : Scope} {pm ctv : Value} {f c' : Addr} {k : Nat} {u : Value} {v : V} {tb : TE} {Q : VK} {E : XK}
    (e0 : Env0 P w K mg base A outer s H) (hr : Room (k + 1) A) (hf : s.heap.get? f = some (PySem.W.kla_obj "<lambda>" nm params body scope [] pm c' ctv)) (hc : H c' = some (LamX.CodeO c' nm)) (S : FnScope N [x] scope) (hcell : ∀ y ∈ scope.names, y.2 ≠ .cell)
    (hbind : bindArgs (PySem.W.kla_fn "<lambda>" nm params body scope [] pm (.ref c') ctv) ⟨[u], []⟩ = pure [(x, u)])
    (hb : Room k (A.deeper (envOfC nm scope s.heap.objs.size f (.ref c'))) → PE (cxOf CX0 P w K mg base N nm scope f (.ref c') A outer s H E) body tb) (rv : RelV v u) (ht : tb (L2.start N [v]) H Q) :
    codeAny (model P w) A (.call (.ref f) ⟨[u], []⟩) (CR CX0 outer P w H s Q E) s := by
  have lim : s.heap.NoLimit := e0.mod.nolimit.keeps fun b o e => (e0.bs b o e).1
  obtain ⟨⟨oc, vs, t, g1, g2, g3⟩, _, _⟩ := e0.hok c' _ hc
  refine PySem.W.kla_callFunE hr.depth hf rfl S.co S.gen rfl ⟨c', oc, vs, t, rfl, g1, g2, g3⟩ ?_
  rw [hbind]
  refine wpAny_pure (wpAny_newFunctionEnv_cells S.kind (fun y hy => ?_) fun env he s1 q => ?_)
  · obtain rfl := List.mem_singleton.mp hy
    rcases S.par x (List.mem_singleton.mpr rfl) with z | z
    · exact .inl z
    · exact absurd rfl (hcell _ (PySem.mem_of_lookup z))
  · subst he
    refine ⟨lim.keeps q.toInCall.keep, ?_⟩
    have I : Inv (cxOf CX0 P w K mg base N nm scope f (.ref c') A outer s H E) [] (L2.start N [v]) H s1 := inv_start (us := [u]) S hr.hd e0 rfl (.cons rv .nil) q
    refine PySem.W.kla_codeExpr (wpAny_mono ((hb (hr.deeper _)).run [] s1 _ H Q I ht) (fun r s' h => ?_) fun e s' h => h)
    obtain ⟨v', H', J, rv', h'⟩ := h
    exact ⟨v', H', J.os, J.bare, J.base, J.hok, rv', h'⟩
section
variable {X : Cx} {pins : List (Addr × Obj)} {σ : L2.St} {H : Hp}
/-- the object keeps the best item so far and its key -/
abbrev bestO (u : Value) (n : Int) (t : Tok) (c : Nat) : Obj := seqObj "list" #[u, .int n t] c
/-- what a turn of the key promises -/
def KeyTurn (X : Cx) (pins : List (Addr × Obj)) (σ : L2.St) (H : Hp) (f : Addr) (fo : Obj) (xs : List V) (kf : Nat → Int) : Prop :=
  ∀ (i : Nat) (x : V) (u : Value) (s : Shared) (more : List (Addr × Obj)), xs[i]? = some x → RelV x u → s.heap.get? f = some fo → Inv X (more ++ pins) σ H s →
    wpAny (model X.prog X.w) X.A.in1 (call (.ref f) [u]) (fun r s1 => ∃ t, r = .int (kf i) t ∧ Inv X (more ++ pins) σ H s1) (fun _ _ => False) s
theorem min_turns {l f S J : Addr} {fo : Obj} {xs : List V} {kf : Nat → Int} {R : Result → Shared → Prop} (hh : X.A.handled = none) (hl : SqL X.K H l xs) (lJ : l ≠ J) (SJ : S ≠ J) (fJ : f ≠ J) (fS : f ≠ S) (lS : l ≠ S) (fdat : ∀ v, fo.data ≠ .cell v)
    (okS : FpOk X pins H S) (okJ : FpOk X pins H J) (okf : FpOk X pins H f) (turn : KeyTurn X pins σ H f fo xs kf)
    (fin : ∀ (i : Nat) (x : V) (u : Value) (s : Shared), xs[i]? = some x → RelV x u → (∀ j, j < xs.length → kf i ≤ kf j) → Inv X pins σ H s → R (.ok (.ret u)) s) :
    ∀ (rest j i : Nat) (s : Shared) (x : V) (u : Value) (t : Tok) (c : Nat), xs.length - j = rest → j ≤ xs.length → Inv X pins σ H s → s.heap.get? S = some (bestO u (kf i) t c) → s.heap.IsListIter J l j → s.heap.get? f = some fo →
      xs[i]? = some x → RelV x u → (∀ j', j' < j → kf i ≤ kf j') → codeAny (model X.prog X.w) X.A (.builtin "min.loop" ⟨[.ref J, .ref f, .ref S], []⟩) R s := by
  have nm : (toString "min" ++ toString ".loop" : String) = "min.loop" := by decide
  intro rest
  induction rest with
  | zero =>
    intro j i s x u t c hr hj I gS gJ gf hx rx best
    obtain ⟨its, rv, pl, _⟩ := I.list hl
    have hlen : its.toArray.size = xs.length := by rw [List.size_toArray, rv.length]
    have W := Walks.list (prog := X.prog) (w := X.w) (A := X.A.in1) hh J l lJ its.toArray
    refine codeAny_builtin PySem.F.entry_min_loop ?_
    rw [Around.under_plainId PySem.F.plain_min_loop _]
    show wpAny _ X.A.in1 (seqItems? (.ref S) >>= _) _ _ s
    refine wpAny_bind (wpAny_seqItems gS rfl ?_)
    show wpAny _ X.A.in1 (tryCatch (pyNext (.ref J)) _ >>= _) _ _ s
    refine wpAny_bind (wpAny_tryCatch (W.done _ _ _ ⟨by rw [hlen, show xs.length = j by omega]; exact gJ, pl.isList⟩ fun h1 tk1 kp => ?_))
    have gS1 := kp S _ (by simpa using SJ) gS
    have upd1 := Heap.SameBut.update h1 S (Obj.mapSeq fun _ => (#[] : Array Value))
    show wpAny _ X.A.in1 (updateSeq S (fun _ => #[]) >>= _) _ _ _
    refine wpAny_bind (wpAny_updateSeq gS1 rfl (wpAny_bind (wpAny_letGo (wpAny_pure ?_))))
    refine fin i x u _ hx rx (fun j' hj' => best j' (by omega)) ?_
    refine Inv.turnedL (s := s) (t' := tk1) (ch := [J, S]) I (fun b o hb e => ?_) fun b hb => ?_
    · have h1 : b ≠ J ∧ b ≠ S := by simpa using hb
      exact (upd1.2 b h1.2).trans (kp b o (by simpa using h1.1) e)
    · rcases List.mem_cons.mp hb with rfl | hb
      · exact okJ
      · obtain rfl := List.mem_singleton.mp hb; exact okS
  | succ rest ih =>
    intro j i s x u t c hr hj I gS gJ gf hx rx best
    obtain ⟨its, rv, pl, _⟩ := I.list hl
    have hlen : its.toArray.size = xs.length := by rw [List.size_toArray, rv.length]
    have W := Walks.list (prog := X.prog) (w := X.w) (A := X.A.in1) hh J l lJ its.toArray
    have hlt : j < xs.length := by omega
    refine codeAny_builtin PySem.F.entry_min_loop ?_
    rw [Around.under_plainId PySem.F.plain_min_loop _]
    show wpAny _ X.A.in1 (seqItems? (.ref S) >>= _) _ _ s
    refine wpAny_bind (wpAny_seqItems gS rfl ?_)
    show wpAny _ X.A.in1 (tryCatch (pyNext (.ref J)) _ >>= _) _ _ s
    refine wpAny_bind (wpAny_tryCatch (W.item j _ _ _ (by rw [hlen]; exact hlt) ⟨gJ, pl.isList⟩ fun v h1 tk1 hv st1 kp => ?_))
    obtain ⟨oJ, gJ1, cJ, dJ⟩ := id st1.1
    have gS1 := kp S _ (by simpa using SJ) gS
    have gf1 := kp f _ (by simpa using fJ) gf
    obtain ⟨y, hy, ry⟩ : ∃ y, xs[j]? = some y ∧ RelV y v := by
      obtain ⟨v', hv', ry⟩ := rv.get (i := j) (List.getElem?_eq_getElem hlt)
      have e : its[j]? = some v := by simpa using hv
      rw [hv'] at e
      exact ⟨_, List.getElem?_eq_getElem hlt, Option.some.inj e ▸ ry⟩
    have I1 : Inv X pins σ H { s with heap := h1, toks := tk1 } := I.turnedL (ch := [J]) (fun b o hb e => kp b o hb e) fun b hb => by obtain rfl := List.mem_singleton.mp hb; exact okJ
    have Ip : Inv X ([(S, bestO u (kf i) t c), (J, oJ), (f, fo)] ++ pins) σ H { s with heap := h1, toks := tk1 } := I1.pins_of fun p hp => by
      rcases List.mem_append.mp hp with hp | hp
      · rcases List.mem_cons.mp hp with rfl | hp
        · exact ⟨gS1, okS.1, okS.2.1, okS.2.2.1, fun v z => by cases z⟩
        · rcases List.mem_cons.mp hp with rfl | hp
          · exact ⟨gJ1, okJ.1, okJ.2.1, okJ.2.2.1, fun v z => by rw [dJ] at z; cases z⟩
          · obtain rfl := List.mem_singleton.mp hp
            exact ⟨gf1, okf.1, okf.2.1, okf.2.2.1, fdat⟩
      · exact I1.pin p (List.mem_append_right _ hp)
    show wpAny _ X.A.in1 (tryCatch (holding [v] (call (.ref f) [v])) _ >>= _) _ _ _
    refine wpAny_bind (wpAny_tryCatch (wpAny_holding (wpAny_mono (turn j y v _ _ hy ry gf1 Ip) (fun r s2 he => ?_) fun _ _ z => z.elim)))
    obtain ⟨t2, rfl, I2⟩ := he
    have pn : ∀ p ∈ [(S, bestO u (kf i) t c), (J, oJ), (f, fo)], s2.heap.get? p.1 = some p.2 := fun p hp => (I2.pin p (List.mem_append_right _ (List.mem_append_left _ hp))).1
    have gS2 := pn _ (.head _)
    have gJ2 := pn _ (.tail _ (.head _))
    have gf2 := pn _ (.tail _ (.tail _ (.head _)))
    have I3 : Inv X pins σ H s2 := I2.pins_of fun p hp => I2.pin p (List.mem_append_right _ (List.mem_append_right _ hp))
    have it2 : s2.heap.IsListIter J l (j + 1) := ⟨oJ, gJ2, cJ, dJ⟩
    obtain ⟨h2, g2, d2, k2, o2⟩ := s2
    show wpAny _ X.A.in1 (tryCatch (holding [v, .int (kf j) t2] (richCompare .Lt (.int (kf j) t2) (.int (kf i) t) >>= _)) _ >>= _) _ _ _
    refine wpAny_bind (wpAny_tryCatch (wpAny_holding (wpAny_bind (CmpOf.ints_lt (prog := X.prog) (w := X.w) (A := X.A.in1) (P := fun i v => ∃ t, v = .int (kf i) t) kf (fun i v h => h) j i _ _ _ _ _ ⟨t2, rfl⟩ ⟨t, rfl⟩ ?_))))
    refine wpAny_bind (wpAny_holding (wpAny_truthy_bool (wpAny_bind (wpAny_letGo (wpAny_pure ?_)))))
    by_cases less : kf j < kf i
    · have upd1 := Heap.SameBut.update h2 S (Obj.mapSeq fun _ => #[v, .int (kf j) t2])
      obtain ⟨c2, gS3⟩ : ∃ c2, (h2.update S (Obj.mapSeq fun _ => #[v, .int (kf j) t2])).get? S = some (bestO v (kf j) t2 c2) := ⟨_, get?_update_seq gS2 fun _ => #[v, .int (kf j) t2]⟩
      simp only [less, decide_true, if_true]
      refine wpAny_bind (wpAny_updateSeq gS2 rfl (wpAny_bind (wpAny_letGo ?_)))
      rw [nm]
      refine wpAny_pure ⟨plainId_quiet PySem.F.plain_min_loop _, ih (j + 1) j _ y v t2 c2 (by omega) hlt (I3.turnedL (ch := [S]) (fun b o hb e => ?_) fun b hb => ?_) gS3 ⟨oJ, (upd1.2 J SJ.symm).trans gJ2, cJ, dJ⟩ ((upd1.2 f fS).trans gf2) hy ry fun j' hj' => ?_⟩
      · exact (upd1.2 b (by simpa using hb)).trans e
      · obtain rfl := List.mem_singleton.mp hb; exact okS
      · by_cases z : j' = j
        · subst z; exact Int.le_refl _
        · have := best j' (by omega)
          omega
    · simp only [less, decide_false, Bool.false_eq_true, if_false]
      refine wpAny_bind (wpAny_letGo ?_)
      rw [nm]
      refine wpAny_pure ⟨plainId_quiet PySem.F.plain_min_loop _, ih (j + 1) i _ x u t c (by omega) hlt (I3.turnedL (ch := []) (fun b o _ e => e) fun b hb => (by cases hb)) gS2 it2 gf2 hx rx fun j' hj' => ?_⟩
      by_cases z : j' = j
      · subst z; omega
      · exact best j' (by omega)
end
section
variable {X : Cx} {pins : List (Addr × Obj)} {σ : L2.St} {H : Hp} {s : Shared}
theorem min_run {l f : Addr} {fo : Obj} {xs : List V} {kf : Nat → Int} {Q : Value → Shared → Prop} {E : Value → Shared → Prop} (hh : X.A.handled = none) (I : Inv X pins σ H s) (hl : SqL X.K H l xs) (hne : 0 < xs.length) (gf : s.heap.get? f = some fo) (fdat : ∀ v, fo.data ≠ .cell v) (okf : FpOk X pins H f)
    (turn : KeyTurn X pins σ H f fo xs kf) (fin : ∀ (i : Nat) (x : V) (u : Value) (s : Shared), xs[i]? = some x → RelV x u → (∀ j, j < xs.length → kf i ≤ kf j) → Inv X pins σ H s → Q u s) :
    wpAny (model X.prog X.w) X.A (call (.builtin "min") [.ref l] [(Str.ofString "key", .ref f)]) Q E s := by
  have nm : (toString "min" ++ toString ".loop" : String) = "min.loop" := by decide
  obtain ⟨its, rv, pl, _⟩ := I.list hl
  have hlen : its.toArray.size = xs.length := by rw [List.size_toArray, rv.length]
  obtain ⟨ol, gl, _⟩ := id pl.isList
  have ll : l < s.heap.objs.size := Heap.lt_size gl
  have lf : f < s.heap.objs.size := Heap.lt_size gf
  refine kmk_tree PySem.F.kind_min PySem.F.plain_min PySem.F.entry_min (kmk_min_key _ _) ?_
  show wpAny _ X.A.in1 (Builtin.Builtins.bindParams "min" ["key", "default"] 0 ⟨[], [(Str.ofString "key", .ref f)]⟩ >>= _) _ _ s
  refine wpAny_bind (wpAny_of_eq (show Builtin.Builtins.bindParams "min" ["key", "default"] 0 ⟨[], [(Str.ofString "key", .ref f)]⟩ = pure [some (.ref f), none] from rfl) ?_)
  refine wpAny_bind (wpAny_pure (wpAny_bind (wpAny_pyIter_list pl.isList (wpAny_bind (wpAny_newList ?_ (Nat.zero_le _))))))
  rw [nm]
  let hJ := s.heap.push { cls := .type "list_iterator", data := .fields #[.ref l, .int 0 0] }
  have zJ : hJ.objs.size = s.heap.objs.size + 1 := size_push' ..
  have gJ : (hJ.push (seqObj "list" #[] 0)).get? s.heap.objs.size = some { cls := .type "list_iterator", data := .fields #[.ref l, .int 0 0] } := Heap.get?_push_of_some _ (Heap.get?_push_size _ rfl)
  have gS : (hJ.push (seqObj "list" #[] 0)).get? hJ.objs.size = some (seqObj "list" #[] 0) := Heap.get?_push_size _ rfl
  have kp0 : ∀ b o, s.heap.get? b = some o → (hJ.push (seqObj "list" #[] 0)).get? b = some o := fun b o e => Heap.get?_push_of_some _ (Heap.get?_push_of_some _ e)
  have okJ : FpOk X pins H s.heap.objs.size := I.fpOk (Nat.le_refl _) (I.hok.fresh (Nat.le_refl _))
  have okS : FpOk X pins H hJ.objs.size := I.fpOk (by omega) (I.hok.fresh (by omega))
  have SJ : hJ.objs.size ≠ s.heap.objs.size := by omega
  have lJ : l ≠ s.heap.objs.size := Nat.ne_of_lt ll
  have fJ : f ≠ s.heap.objs.size := Nat.ne_of_lt lf
  have fS : f ≠ hJ.objs.size := Nat.ne_of_lt (Nat.lt_of_lt_of_le lf (by rw [zJ]; exact Nat.le_succ _))
  have lS : l ≠ hJ.objs.size := Nat.ne_of_lt (Nat.lt_of_lt_of_le ll (by rw [zJ]; exact Nat.le_succ _))
  have I0 : Inv X pins σ H { s with heap := hJ.push (seqObj "list" #[] 0) } := I.kept (t' := s.toks) kp0
  obtain ⟨its0, rv0, pl0, _⟩ := I0.list hl
  have hlen0 : its0.toArray.size = xs.length := by rw [List.size_toArray, rv0.length]
  have W := Walks.list (prog := X.prog) (w := X.w) (A := X.A.in1) hh s.heap.objs.size l lJ its0.toArray
  refine wpAny_pure ⟨plainId_quiet PySem.F.plain_min_loop _, ?_⟩
  refine codeAny_builtin PySem.F.entry_min_loop ?_
  rw [Around.under_plainId PySem.F.plain_min_loop _]
  show wpAny _ X.A.in1 (seqItems? (.ref hJ.objs.size) >>= _) _ _ _
  refine wpAny_bind (wpAny_seqItems gS rfl ?_)
  show wpAny _ X.A.in1 (tryCatch (pyNext (.ref s.heap.objs.size)) _ >>= _) _ _ _
  refine wpAny_bind (wpAny_tryCatch (W.item 0 _ _ _ (by rw [hlen0]; exact hne) ⟨⟨_, gJ, rfl, rfl⟩, pl0.isList⟩ fun v h1 tk1 hv st1 kp => ?_))
  obtain ⟨oJ, gJ1, cJ, dJ⟩ := id st1.1
  have gS1 := kp hJ.objs.size _ (by simpa using SJ) gS
  have gf1 := kp f _ (by simpa using fJ) (kp0 f _ gf)
  obtain ⟨y, hy, ry⟩ : ∃ y, xs[0]? = some y ∧ RelV y v := by
    obtain ⟨v', hv', ry⟩ := rv0.get (i := 0) (List.getElem?_eq_getElem hne)
    have e : its0[0]? = some v := by simpa using hv
    rw [hv'] at e
    exact ⟨_, List.getElem?_eq_getElem hne, Option.some.inj e ▸ ry⟩
  have I1 : Inv X pins σ H { s with heap := h1, toks := tk1 } := Inv.turnedL (s := { s with heap := hJ.push (seqObj "list" #[] 0) }) (t' := tk1) (ch := [s.heap.objs.size]) I0 (fun b o hb e => kp b o hb e) fun b hb => by obtain rfl := List.mem_singleton.mp hb; exact okJ
  have Ip : Inv X ([(hJ.objs.size, seqObj "list" #[] 0), (s.heap.objs.size, oJ), (f, fo)] ++ pins) σ H { s with heap := h1, toks := tk1 } := I1.pins_of fun p hp => by
    rcases List.mem_append.mp hp with hp | hp
    · rcases List.mem_cons.mp hp with rfl | hp
      · exact ⟨gS1, okS.1, okS.2.1, okS.2.2.1, fun v z => by cases z⟩
      · rcases List.mem_cons.mp hp with rfl | hp
        · exact ⟨gJ1, okJ.1, okJ.2.1, okJ.2.2.1, fun v z => by rw [dJ] at z; cases z⟩
        · obtain rfl := List.mem_singleton.mp hp
          exact ⟨gf1, okf.1, okf.2.1, okf.2.2.1, fdat⟩
    · exact I1.pin p (List.mem_append_right _ hp)
  show wpAny _ X.A.in1 (tryCatch (holding [v] (call (.ref f) [v])) _ >>= _) _ _ _
  refine wpAny_bind (wpAny_tryCatch (wpAny_holding (wpAny_mono (turn 0 y v _ _ hy ry gf1 Ip) (fun r s2 he => ?_) fun _ _ z => z.elim)))
  obtain ⟨t2, rfl, I2⟩ := he
  have pn : ∀ p ∈ [(hJ.objs.size, seqObj "list" #[] 0), (s.heap.objs.size, oJ), (f, fo)], s2.heap.get? p.1 = some p.2 := fun p hp => (I2.pin p (List.mem_append_right _ (List.mem_append_left _ hp))).1
  have gS2 := pn _ (.head _)
  have gJ2 := pn _ (.tail _ (.head _))
  have gf2 := pn _ (.tail _ (.tail _ (.head _)))
  have I3 : Inv X pins σ H s2 := I2.pins_of fun p hp => I2.pin p (List.mem_append_right _ (List.mem_append_right _ hp))
  obtain ⟨h2, g2, d2, k2, o2⟩ := s2
  have upd1 := Heap.SameBut.update h2 hJ.objs.size (Obj.mapSeq fun _ => #[v, .int (kf 0) t2])
  obtain ⟨c2, gS3⟩ : ∃ c2, (h2.update hJ.objs.size (Obj.mapSeq fun _ => #[v, .int (kf 0) t2])).get? hJ.objs.size = some (bestO v (kf 0) t2 c2) := ⟨_, get?_update_seq gS2 fun _ => #[v, .int (kf 0) t2]⟩
  show wpAny _ X.A.in1 (updateSeq hJ.objs.size (fun _ => #[v, .int (kf 0) t2]) >>= _) _ _ _
  refine wpAny_bind (wpAny_updateSeq gS2 rfl ?_)
  rw [nm]
  refine wpAny_pure ⟨plainId_quiet PySem.F.plain_min_loop _, min_turns hh hl lJ SJ fJ fS lS fdat okS okJ okf turn (fun i x u s' hx rx best J => fin i x u s' hx rx best J) _ 1 0 _ y v t2 c2 rfl hne (I3.turnedL (ch := [hJ.objs.size]) (fun b o hb e => ?_) fun b hb => ?_) gS3 ⟨oJ, (upd1.2 _ SJ.symm).trans gJ2, cJ, dJ⟩ ((upd1.2 f fS).trans gf2) hy ry fun j' hj' => ?_⟩
  · exact (upd1.2 b (by simpa using hb)).trans e
  · obtain rfl := List.mem_singleton.mp hb; exact okS
  · obtain rfl : j' = 0 := by omega
    exact Int.le_refl _
end
def tMinKey (K : PySem.W.Frag) (P : Addr) (nm : Str) (N : List Str) (tb : TE) (ta : TA) : TE := fun σ H Q => ta σ H fun vs H1 => ∃ (l : Addr) (xs : List V) (ps : Array Value), vs = [.ref l] ∧ 0 < xs.length ∧ H1 P = some (.tbl ps) ∧ Coded H1 nm ps ∧
  ∀ c' H2, LamCh H1 P nm ps c' H2 → SqL K H2 l xs ∧ ∃ kf : Nat → Int, (∀ (i : Nat) (x : V), xs[i]? = some x → tb (L2.start N [x]) H2 fun v H' => v = .int (kf i) ∧ H' = H2) ∧ ∀ (i : Nat) (x : V), xs[i]? = some x → (∀ j, j < xs.length → kf i ≤ kf j) → Q x H2
section
variable {X : Cx}
theorem pe_minKey {c P : Addr} {k : Nat} {N : List Str} {one : Str} {params : Arguments} {body e : Expr} {scope : Scope} {p lpos kpos pos : Pos} {ta : TA} {tb : TE} (hr : Room (k + 2) X.A) (hg : Gl X "min") (hm : X.mg "min" = none) (tab : LamX.TabB X.base X.mg c P) (hcode : X.env.code = .ref c)
    (S : FnScope N [one] scope) (hcell : ∀ y ∈ scope.names, y.2 ≠ .cell) (hdef : defaultsOf params X.env = ([], [])) (hbind : ∀ (nm : Str) (pm cv ctv u : Value), bindArgs (PySem.W.kla_fn "<lambda>" nm params body scope [] pm cv ctv) ⟨[u], []⟩ = pure [(one, u)])
    (hb : ∀ (A : Around) (outer : List Env) (s : Shared) (H : Hp) (E : XK) (f c' : Addr), Room k (A.deeper (envOfC (X.env.qual ++ "<lambda>") scope s.heap.objs.size f (.ref c'))) → PE (cxOf CX0 X.prog X.w X.K X.mg X.base N (X.env.qual ++ "<lambda>") scope f (.ref c') A outer s H E) body tb)
    (ha : PA X [e] ta) (he : backTo pos (starEach [e] X.env) = (false, eval e X.env) :: backTo pos (starEach [] X.env) := by rfl) (hpl : (backTo pos (starEach [e] X.env)).any (·.1) = false := by rfl) :
    PE X (.Call (.Name "min" p) [e] [⟨some "key", .Lambda params body scope lpos, kpos⟩] pos) (tMinKey X.K P (X.env.qual ++ "<lambda>") N tb ta) := by
  refine ⟨fun pins s σ H Q I h => ?_⟩
  refine wpAny_Call_Name_kw (ld_blt I hg hm rfl ?_)
  refine PyProof.Rows.callWith_kw (thn (ha.run pos pins s σ H _ I h) fun us s1 ⟨vs, H1, I1, r1, l, xs, ps, e1, hne, hP, hC, q1⟩ => ?_) he hpl (by rfl) (by rfl)
  subst e1
  cases r1 with
  | cons r rr =>
    cases rr
    cases r
    show wpAny _ _ (evalAll ((do let v ← eval (.Lambda params body scope lpos) X.env; standAt pos; pure v) :: (backToKw pos (keywordEach [] X.env)).map (·.2))) _ _ s1
    refine wpAny_evalAll_cons (wpAny_bind (lam_made I1 tab hcode hP hC hdef S.nofree fun f c' pm ctv H2 s2 I2 ch gf okf => wpAny_bind (wpAny_standAt (wpAny_pure (wpAny_evalAll_nil ?_)))))
    obtain ⟨hl, kf, hk, hq⟩ := q1 c' H2 ch
    have hco : H2 c' = some (LamX.CodeO c' (X.env.qual ++ "<lambda>")) := by
      cases ch with
      | old z => exact z
      | new more z _ _ => exact upd_same
    refine min_run hr.hd I2 hl hne gf (fun v z => by cases z) okf (fun i x u s3 more hx rx gf3 I3 => ?_) fun i x u s3 hx rx best J => ⟨x, H2, J, rx, hq i x hx best⟩
    have rc := lam_called (k := k) (E := fun _ _ _ => False) (A := X.A.in1) I3.env0.in1 (hr.in1.mono (by omega)) gf3 hco S hcell (hbind _ _ _ _ u) (fun hr' => hb _ _ _ _ _ _ _ hr') rx (hk i x hx)
    refine wpAny_call (codeAny_mono rc fun r s4 hq' => ?_)
    cases r with
    | error e => exact hq'.elim
    | ok fl =>
      cases fl with
      | ret u =>
        obtain ⟨v, H4, I4, rv, ev, eH⟩ := I3.after hq'
        subst ev eH
        obtain ⟨t, rfl⟩ := rv
        exact ⟨t, rfl, I4⟩
      | next => exact hq'.elim
      | brk => exact hq'.elim
      | cont => exact hq'.elim
end
/-! ### its reading -/
def TabM (M : MH) (P : Addr) (nm : Str) : Prop := ∃ ps : Array Value, M P = some (.raw (.tbl ps)) ∧ TriplesOk ps.toList ∧ ∀ (pos : Pos) (cv : Value), codeAmong pos ps.toList = some cv → ∃ c, cv = .ref c ∧ M c = some (.raw (LamX.CodeO c nm))
/-- all stays but the table -/
def SubP (P : Addr) (M M' : MH) : Prop := ∀ b o, b ≠ P → M b = some o → M' b = some o
def tLen0 (K : PySem.W.Frag) : TE := tCB (fun xs H Q => ∃ p ys, xs = [.ref p] ∧ (SqL K H p ys ∨ SqT K H p ys) ∧ Q (.int ys.length) H) (tCons (tOp (rIx K) (tVar 0) (tC (.int 0))) tNil)
theorem len0 {K : PySem.W.Frag} {H : Hp} {a q : Addr} {ws us : List V} {Q : VK} (ha : H a = some (.tup (.ref q :: ws))) (hq : H q = some (.lst us)) (k : Q (.int us.length) H) : tLen0 K (L2.start [Str.ofString "one"] [.ref a]) H Q :=
  ⟨.ref a, rfl, .inr (.inl ⟨_, _, 0, .ref q, rfl, rfl, SqT.of ha, at_nat (j := 0) rfl, _, _, rfl, .inl (SqL.of hq), k⟩)⟩
theorem xp_minKey {K : PySem.W.Frag} {P : Addr} {nm : Str} {ds : DS} {M : MH} {Φ : Ds → MH → Prop} {ta : TA} (h : Xa K ta ds M fun xs M1 => ∃ l : List (List PyData × PyData), xs = [.dat (.list (l.map fun z => .tuple [.list z.1, z.2]))] ∧ l ≠ [] ∧ TabM M1 P nm ∧
    ∀ M2, TabM M2 P nm → SubP P M1 M2 → ∀ z ∈ l, (∀ z' ∈ l, z.1.length ≤ z'.1.length) → Φ (.dat (.tuple [.list z.1, z.2])) M2) : Xp K (tMinKey K P nm [Str.ofString "one"] (tLen0 K) ta) ds M Φ := fun σ G H sd I Q q =>
  h σ G H sd I _ fun us xs M1 G1 H1 s1 d1 ⟨l, e, hne, ⟨ps, hP, hT, hc⟩, k⟩ => by
    subst e
    cases d1 with
    | cons d1 d2 =>
      cases d2
      cases d1 with
      | lst ha hd =>
        rename_i a vs
        obtain ⟨_, o, eo, mo⟩ := s1.inn.ob P _ hP
        obtain rfl := mo.raw
        have hlen : vs.length = l.length := by rw [hd.length, List.length_map]
        have hC : Coded H1 nm ps := ⟨hT, fun pos cv z => by
          obtain ⟨c, e1, e2⟩ := hc pos cv z
          obtain ⟨_, o, e3, mo⟩ := s1.inn.ob c _ e2
          obtain rfl := mo.raw
          exact ⟨c, e1, e3⟩⟩
        refine ⟨a, vs, ps, rfl, by rw [hlen]; exact List.length_pos_iff.mpr hne, eo, hC, fun c' H2 ch => ?_⟩
        obtain ⟨M2, s2, t2, sp⟩ : ∃ M2, Stp K M1 G1 H1 M2 G1 H2 ∧ TabM M2 P nm ∧ SubP P M1 M2 := by
          cases ch with
          | old z => exact ⟨M1, .refl s1.inn, ⟨ps, hP, hT, hc⟩, fun b o _ e => e⟩
          | new more z t1 t2 =>
            have pc : P ≠ c' := ne_of_none eo z
            have m1 : MOk K G1 (.tbl (ps ++ more)) (.raw (.tbl (ps ++ more))) := by cases more; rfl
            have w1 := Stp.put (K := K) (G := G1) (H := H1) s1.inn hP m1
            have z2 : upd H1 P (.tbl (ps ++ more)) c' = none := by rw [upd_ne pc.symm]; exact z
            have m2 : MOk K G1 (LamX.CodeO c' nm) (.raw (LamX.CodeO c' nm)) := rfl
            have w2 := Stp.newM (K := K) w1.inn z2 m2
            have nc : M1 c' = none := s1.inn.no z
            refine ⟨_, w1.trans w2, ⟨ps ++ more, by rw [MH.up_ne pc, MH.up_same], t1, fun pos cv hz => ?_⟩, fun b o hb e => by rw [MH.up_ne (MH.ne e nc), MH.up_ne hb]; exact e⟩
            rcases t2 pos cv hz with y | y
            · obtain ⟨c, e1, e2⟩ := hc pos cv y
              refine ⟨c, e1, ?_⟩
              rw [MH.up_ne (MH.ne e2 nc), MH.up_ne fun y => ?_]
              · exact e2
              · rw [y, hP] at e2
                exact LamX.codeO_ne ps (by injection e2 with e2; injection e2 with e2; exact e2.symm)
            · exact ⟨c', y, MH.up_same⟩
        have at2 : ∀ (i : Nat) (x : V), vs[i]? = some x → ∃ z ws us p q, l[i]? = some z ∧ x = .ref p ∧ G1 p = some (.tup (.ref q :: ws)) ∧ G1 q = some (.lst us) ∧ us.length = z.1.length ∧ Da G1 x (.tuple [.list z.1, z.2]) := fun i x hx => by
          obtain ⟨y, hy, dy⟩ := Paired.at1 (DaAll.dv (K := K) hd) hx
          rw [List.getElem?_map, List.getElem?_map] at hy
          cases e : l[i]? with
          | none => rw [e] at hy; cases hy
          | some z =>
            rw [e] at hy
            cases hy
            have dy' : Da G1 x (.tuple [.list z.1, z.2]) := dy
            cases dy' with
            | tup hp hall =>
              cases hall with
              | cons h1 h2 =>
                cases h1 with
                | lst hq hu => exact ⟨z, _, _, _, _, rfl, rfl, hp, hq, hu.length, dy⟩
        have G2 := s2.inn.ex
        refine ⟨SqL.of (G2 _ _ ha), fun i => ((l[i]?.map fun z => (z.1.length : Int)).getD 0), fun i x hx => ?_, fun i x hx best => ?_⟩
        · obtain ⟨z, ws, us, p, qq, hz, rfl, hp, hq, hu, _⟩ := at2 i x hx
          refine len0 (G2 _ _ hp) (G2 _ _ hq) ⟨?_, rfl⟩
          dsimp only
          rw [hz, hu]; rfl
        · obtain ⟨z, ws, us, p, qq, hz, rfl, hp, hq, hu, dz⟩ := at2 i x hx
          refine q _ (.dat (.tuple [.list z.1, z.2])) M2 G1 H2 (s1.trans s2) dz (k M2 t2 sp z (List.mem_of_getElem? hz) fun z' hz' => ?_)
          obtain ⟨j, hj⟩ := List.mem_iff_getElem?.mp hz'
          have := best j (by rw [hlen]; exact (List.getElem?_eq_some_iff.mp hj).1)
          dsimp only at this
          rw [hz, hj] at this
          exact Int.ofNat_le.mp this
end K62
end
section
set_option Elab.async false
set_option linter.all false
set_option maxRecDepth 100000
set_option maxHeartbeats 4000000
set_option autoImplicit false
namespace K62
open PySem PySem.Spec PyProof.Rows L2
/-! ### xs.remove(x) -/
def rRemD (K : PySem.W.Frag) : V → List V → Hp → VK → Prop := fun x vs H Q => ∃ (a : Addr) (xs : List V) (y : V) (d : PyData) (ds : List PyData) (j : Nat) (z : PyData), x = .ref a ∧ vs = [y] ∧ H a = some (.lst xs) ∧ DpAll K H xs ds ∧ Dp K H y d ∧
  SeqAt.shaped (.list ds) = true ∧ SeqAt.shaped d = true ∧ ds[j]? = some z ∧ PyData.eqv z d = true ∧ (∀ (m : Nat) (z' : PyData), m < j → ds[m]? = some z' → PyData.eqv z' d = false) ∧ Q .non (upd H a (.lst (xs.eraseIdx j)))
theorem mt_removeD {X : Cx} (hu : X.A.units + 65 < cLine) : MtM X "list.remove" (rRemD X.K) := by
  intro pins s σ H x vs v us Q I rx rv h
  obtain ⟨a, xs, y, d, ds, j, z, rfl, rfl, hH, hxs, hy, sl, sd, hz, hzj, hno, q⟩ := h
  cases rx
  obtain ⟨uy, rfl, ry⟩ := rv.one
  obtain ⟨big, its, n, r, hl, e⟩ := I.lstM hH
  obtain ⟨bs, r1⟩ := Dp.reads I d y uy hy ry
  obtain ⟨as, h4⟩ := Dp.readsAll I ds _ its hxs r
  have lay : PyData.canLayAll0 ds = true := SeqAt.canLay_of_shaped sl
  have roomy : X.A.units + 1 + min (PyData.depthAll ds) d.depth < cLine := room_in_shaped sd hu
  have n1 : its.length = ds.length := SeqAt.ReadsAll.length ds its as h4
  have told : its.map (SeqAt.readOf s.heap) = ds := SeqAt.readsAll_map ds its as lay h4
  have line := sizeLine_eq
  have jd := (List.getElem?_eq_some_iff.mp hz).1
  have jl : j < its.length := by omega
  have at_ : ∀ (m : Nat) (hm : m < its.toArray.size) (z' : PyData), ds[m]? = some z' → SeqAt.readOf s.heap its.toArray[m] = z' := fun m hm z' hz' => by
    have hm' : m < its.length := by simpa using hm
    rw [← told, List.getElem?_map, List.getElem?_eq_getElem hm'] at hz'
    have e1 : SeqAt.readOf s.heap its[m] = z' := Option.some.inj hz'
    simpa using e1
  refine call_meets PySem.F.slot_list_remove ⟨_, e, rfl⟩ PySem.F.entry_list_remove (PySem.F.args_list_remove_2 _ _)
    (SeqAt.list_removeAt a its.toArray n none #[] uy (fun u => PyData.eqv (SeqAt.readOf s.heap u) d) j (by simpa using jl) ?_ ?_ ?_) ⟨e, SeqAt.items_eqAt (vs := its.toArray) (show ReadsAll s.heap its.toArray.toList ds as from h4) r1 lay (SeqAt.canLay_of_shaped sd) roomy, ?_⟩
  · show PyData.eqv (SeqAt.readOf s.heap its.toArray[j]) d = true
    rw [at_ j (by simpa using jl) z hz]
    exact hzj
  · intro m hm hmj
    have md : m < ds.length := by omega
    show PyData.eqv (SeqAt.readOf s.heap its.toArray[m]) d = false
    rw [at_ m hm _ (List.getElem?_eq_getElem md)]
    exact hno m _ hmj (List.getElem?_eq_getElem md)
  · rw [List.size_toArray, ← hl]; exact big
  · refine ⟨.non, _, I.lset (its' := its.eraseIdx j) hH e ?_ (r.eraseIdx j) ?_, rfl, q⟩
    · show its.toArray.eraseIdxIfInBounds j = (its.eraseIdx j).toArray
      rw [List.eraseIdxIfInBounds_toArray]
    · have := len_erase xs j
      omega
theorem erase_map {α β : Type} (f : α → β) : ∀ (l : List α) (j : Nat), (l.map f).eraseIdx j = (l.eraseIdx j).map f
  | [], _ => rfl
  | _ :: _, 0 => rfl
  | a :: l, j + 1 => by
    rw [List.map_cons, List.eraseIdx_cons_succ, List.eraseIdx_cons_succ, List.map_cons, erase_map f l j]
/-- its reading: the list changes, all is data -/
theorem xs_rem {K : PySem.W.Frag} {ds : DS} {M : MH} {Δ : XE} {ta te : TE} (h : Xp K ta ds M fun x M1 => ∃ p xs0, x = .adr p ∧ M1 p = some (.lst xs0) ∧ Xp K te ds M1 fun y M2 => ∃ es d j z, y = .dat d ∧ M2 p = some (.lst (dats es)) ∧ shD 64 (.list es) ∧ shD 64 d ∧ es[j]? = some z ∧ PyData.eqv z d = true ∧
    (∀ (m : Nat) (z' : PyData), m < j → es[m]? = some z' → PyData.eqv z' d = false) ∧ Δ.nx ds (M2.up p (.lst (dats (es.eraseIdx j))))) : Xs K (tDrop (tBM K "list" (rRemD K) ta (tCons te tNil))) ds M Δ := fun σ G H sd I D e =>
  h σ G H sd I _ fun u x M1 G1 H1 s1 d1 ⟨p, xs0, ex, hp0, h1⟩ => by
    subst ex; cases d1
    obtain ⟨_, o0, eo0, m0⟩ := s1.inn.ob p _ hp0
    obtain ⟨us0, rfl, _⟩ := m0.lst
    refine ⟨.inl ⟨rfl, _, SqL.of eo0⟩, h1 σ G1 H1 (sd.mono s1.gg) s1.inn _ fun w y M2 G2 H2 s2 d2 ⟨es, d, j, z, ey, hp, sh1, sh2, hz, hzd, hno, k⟩ => ?_⟩
    subst ey
    obtain ⟨_, o, eo, m⟩ := s2.inn.ob p _ hp
    obtain ⟨us, rfl, hv⟩ := m.lst
    have hm : MOk K G2 (.lst (us.eraseIdx j)) (.lst (dats (es.eraseIdx j))) := by
      have q := Paired.eraseP j hv
      rw [show (dats es).eraseIdx j = dats (es.eraseIdx j) from erase_map _ _ _] at q
      exact q
    have s := s1.trans s2
    have s3 := Stp.put s2.inn hp (o := .lst (us.eraseIdx j)) hm
    exact ⟨p, us, w, d, es, j, z, rfl, rfl, eo, DaAll.dp (DaAll.mono s2.inn.ex hv.da), Da.dp (Da.mono s2.inn.ex d2), sh1.ok (Nat.le_refl _), sh2.ok (Nat.le_refl _), hz, hzd, hno, e.nx σ ds _ _ _ (s.trans s3) (sd.mono (s.trans s3).gg) k⟩
/-! ### two[::-1] -/
section
variable {prog : Program} {w : World} {A : Around} {E : Value → Shared → Prop} {s : Shared}
theorem applied_back {sl : Addr} {vl vu vs : Value} {Q : Int × Int × Nat → Shared → Prop} (hs : s.heap.IsSliceOf sl vl vu vs) (pl : IsPart vl none) (pu : IsPart vu none) (ps : IsPart vs (some (-1)))
    (h : Q (1, -1, 2) s) : wpAny (model prog w) A (Builtin.Slice.sliceApplied (.ref sl) (pure ((2 : Nat) : Int))) Q E s := by
  obtain ⟨os, gs, cs, fs⟩ := id hs
  unfold Builtin.Slice.sliceApplied Builtin.Slice.sliceFields
  refine wpAny_bind (wpAny_bind (wpAny_field gs fs (x := vl) rfl (wpAny_bind (wpAny_field gs fs (x := vu) rfl (wpAny_bind (wpAny_field gs fs (x := vs) rfl (wpAny_pure ?_)))))))
  refine wpAny_bind (HT.slicePart_ ps ?_)
  show wpAny _ _ (if ((-1 : Int) == 0) = true then _ else _) _ _ s
  rw [if_neg (by decide)]
  exact wpAny_bind (HT.slicePart_ pl (wpAny_bind (HT.slicePart_ pu (wpAny_bind (wpAny_pure (wpAny_pure h))))))
theorem back_two {t sl : Addr} {u0 u1 vl vu vs : Value} {Q : Value → Shared → Prop} (ht : IsTup s.heap t #[u0, u1]) (hs : s.heap.IsSliceOf sl vl vu vs) (pl : IsPart vl none) (pu : IsPart vu none) (ps : IsPart vs (some (-1)))
    (h : Q (.ref s.heap.objs.size) { s with heap := s.heap.push { cls := .type "tuple", data := .seq #[u1, u0] } }) : wpAny (model prog w) A (getItem (.ref t) (.ref sl)) Q E s := by
  obtain ⟨os, gs, cs, fs⟩ := id hs
  have tS : s.TypeIs (.ref sl) "slice" := ⟨os, gs, cs⟩
  have fits : sizeOk (.seq #[u1, u0]) := (show 2 ≤ sizeLine by rw [sizeLine_eq]; decide)
  unfold getItem
  try with_reducible refine wpAny_holding ?_
  first | refine wpAny_bind (wpAny_pure ?_) | skip
  refine wpAny_bind (wpAny_sequenceKey (ht.typeIs) (by decide) (wpAny_bind (wpAny_callSpecial?_slot (name := Str.ofString "__getitem__") ht.typeIs PyProof.Rows.slot_tuple_getitem
    (wpAny_call_entry PyProof.Rows.slot_tuple_getitem ht.typeIs entry_tuple_getitem ?_ (args_tuple_getitem _ _)))))
  show wpAny _ _ (Builtin.Tuple.tupleItemsOf (.ref t) >>= _) _ _ s
  refine wpAny_bind (PyProof.Rows.tupleItemsOf_ ht (wpAny_bind (wpAny_typeOf tS ?_)))
  rw [if_pos (by decide)]
  refine wpAny_bind (applied_back hs pl pu ps ?_)
  have no : ¬ (((1 : Int) == 0 && (-1 : Int) == 1 && 2 == (#[u0, u1] : Array Value).size) = true) := by simp
  show wpAny _ _ (if (((1 : Int) == 0 && (-1 : Int) == 1 && 2 == (#[u0, u1] : Array Value).size) = true) then _ else _) _ _ s
  rw [if_neg no]
  have e : ((List.range 2).filterMap fun (k : Nat) => (#[u0, u1] : Array Value)[((1 : Int) + (k : Int) * -1).toNat]?).toArray = #[u1, u0] := rfl
  rw [e]
  first
    | exact wpAny_bind (m := Builtin.Tuple.tupleExact _) (wpAny_newObj_type (wpAny_pure ⟨_, rfl, wpAny_pure h⟩) fits)
    | exact wpAny_bind (m := Builtin.Tuple.tupleExact _) (wpAny_newObj_type (wpAny_bind (wpAny_pure (wpAny_pure ⟨_, rfl, wpAny_pure h⟩))) fits)
    | exact wpAny_bind (wpAny_bind (m := Builtin.Tuple.tupleExact _) (wpAny_newObj_type (wpAny_pure (wpAny_pure ⟨_, rfl, wpAny_pure h⟩)) fits))
    | exact wpAny_bind (wpAny_bind (m := Builtin.Tuple.tupleExact _) (wpAny_newObj_type (wpAny_pure ⟨_, rfl, wpAny_pure h⟩) fits))
end
def tRevT (K : PySem.W.Frag) (te : TE) : TE := fun σ H Q => te σ H fun x H1 => ∃ a y z, x = .ref a ∧ SqT K H1 a [y, z] ∧ ∀ p, H1 p = none → Q (.ref p) (upd H1 p (.tup [z, y]))
theorem pe_revT {X : Cx} {e : Expr} {te : TE} {k : Nat} {p1 p2 p3 pos : Pos} (he : PE X e te) : PE X (.Subscript e (.Slice none none (some (.UnaryOp .USub (.Constant (.int 1) k p1) p2)) p3) pos) (tRevT X.K te) := by
  refine ⟨fun pins s σ H Q I h => Subscript_ (thn (he.run pins s σ H _ I h) fun v s1 ⟨x, H1, I1, r1, a, y, z, ex, hx, q⟩ => ?_)⟩
  subst ex
  cases r1
  have part : PO X (some (.UnaryOp .USub (.Constant (.int 1) k p1) p2)) (tPart (tUn (rU fun i => .int (-i)) (tC (.int 1)))) := po_some (pe_un un_neg pe_int)
  refine wpAny_Slice (thn (po_none.run pins s1 σ H1 (fun o H2 => o = none ∧ H2 = H1) I1 ⟨rfl, rfl⟩) fun vl s2 ⟨l, H2, I2, pl, el, e2⟩ => thn (po_none.run pins s2 σ H2 (fun o H3 => o = none ∧ H3 = H2) I2 ⟨rfl, rfl⟩) fun vu s3 ⟨u, H3, I3, pu, eu, e3⟩ =>
    thn (part.run pins s3 σ H3 (fun o H4 => o = some (-1) ∧ H4 = H3) I3 ⟨1, rfl, -1, rfl, rfl, rfl⟩) fun vs s4 ⟨o, H4, I4, ps, eo, e4⟩ => ?_)
  subst el e2 eu e3 eo e4
  have I5 : Inv X pins σ H4 { s4 with heap := s4.heap.push { cls := .type "slice", data := .fields #[vl, vu, vs] } } := I4.kept (t' := s4.toks) fun b ob q => Heap.get?_push_of_some _ q
  obtain ⟨its, r, ht, hz⟩ := I5.tuple hx
  cases r with
  | cons ra rr =>
    cases rr with
    | cons rb rn =>
      cases rn
      show wpAny (model X.prog X.w) X.A (subscriptTail e (.Slice none none (some (.UnaryOp .USub (.Constant (.int 1) k p1) p2)) p3) (.ref a) (.ref s4.heap.objs.size)) (EP X pins σ Q) X.xe _
      refine tail_any (ops := [.ref a, .ref s4.heap.objs.size]) ht.typeIs PyProof.Rows.slot_tuple_getitem.lookup ?_ (by with_unfolding_all rfl)
      refine back_two ht (Heap.IsSliceOf.new _ vl vu vs) pl pu ps ?_
      refine ⟨.ref _, _, I5.laid (t' := s4.toks) (o := .tup [z, y]) (fun b ob q => Heap.get?_push_of_some _ q) (Nat.le_refl _) ?_, rfl, q _ (I5.hok.fresh (Nat.le_refl _))⟩
      exact ⟨by rw [sizeLine_eq]; exact (show 2 ≤ 16777216 by decide), _, .cons rb (.cons ra .nil), IsTup.new _ _⟩
theorem xp_revT {K : PySem.W.Frag} {ds : DS} {M : MH} {Φ : Ds → MH → Prop} {te : TE} (h : Xp K te ds M fun x M1 => ∃ d e, x = .dat (.tuple [d, e]) ∧ Φ (.dat (.tuple [e, d])) M1) : Xp K (tRevT K te) ds M Φ := fun σ G H sd I Q q =>
  h σ G H sd I _ fun u x M1 G1 H1 s1 d1 ⟨d, e, ex, k⟩ => by
    subst ex
    cases d1 with
    | tup ha hd =>
      cases hd with
      | cons h1 h2 =>
        cases h2 with
        | cons h2 h3 =>
          cases h3
          rename_i a v w
          refine ⟨a, v, w, rfl, SqT.of (s1.inn.ex _ _ ha), fun p hp => ?_⟩
          have s2 := Stp.newD s1.inn (o := .tup [w, v]) hp
          exact q _ (.dat (.tuple [e, d])) M1 _ _ (s1.trans s2) (Da.tup upd_same (.cons (Da.mono s2.gg h2) (.cons (Da.mono s2.gg h1) .nil))) k
end K62
end
section
set_option Elab.async false
set_option linter.all false
set_option maxRecDepth 100000
set_option maxHeartbeats 4000000
set_option autoImplicit false
namespace K62
open PySem PySem.Spec PyProof.Rows L2
/-! ### == of dicts of ints -/
abbrev intD (l : List (L2.Key × Int)) : List (L2.Key × V) := l.map fun z => (z.1, .int z.2)
theorem hits_of {A : Around} {s : Shared} {lb : List (L2.Key × Int)} {kb : List (L2.Key × Value)} (rb : KV (intD lb) kb) : ∀ {la : List (L2.Key × Int)} {ka : List (L2.Key × Value)}, KV (intD la) ka → ∃ r, PySem.W.KeqHits A s kb ka r ∧ ((∀ z ∈ la, valV (intD lb) z.1 = some (.int z.2)) → r = true)
  | [], _, h => by cases h; exact ⟨true, .nil, fun _ => rfl⟩
  | z :: la, _, h => by
    cases h with
    | @cons _ q _ qs h t =>
      obtain ⟨k, u⟩ := q
      obtain ⟨e, ru⟩ := h
      have e : z.1 = k := e
      subst e
      obtain ⟨t1, rfl⟩ := (show ∃ t, u = Value.int z.2 t from ru)
      obtain ⟨r, hr, hk⟩ := hits_of rb t
      have rv := rb.val z.1
      cases found : valueAt kb z.1 with
      | none =>
        refine ⟨false, .miss found, fun hall => ?_⟩
        rw [found, hall z (List.mem_cons_self ..)] at rv
        cases rv
      | some y =>
        rw [found] at rv
        cases e2 : valV (intD lb) z.1 with
        | none => rw [e2] at rv; cases rv
        | some w =>
          rw [e2] at rv
          obtain ⟨i, rfl⟩ : ∃ i : Int, w = .int i := by
            unfold valV at e2
            obtain ⟨p, hp, rfl⟩ := Option.map_eq_some_iff.mp e2
            obtain ⟨x, _, rfl⟩ := List.mem_map.mp (List.mem_of_find?_eq_some hp)
            exact ⟨x.2, rfl⟩
          obtain ⟨t2, rfl⟩ := rv
          refine ⟨(z.2 == i) && r, .hit found ((MeetsSeq.EqGives.int z.2 i t1 t2).at A s) hr, fun hall => ?_⟩
          have q := hall z (List.mem_cons_self ..)
          rw [e2] at q
          cases q
          rw [hk fun x hx => hall x (List.mem_cons_of_mem _ hx), beq_self_eq_true]; rfl
def rEqDI : R2 := fun x y H Q => ∃ (a b : Addr) (la lb : List (L2.Key × Int)), x = .ref a ∧ y = .ref b ∧ H a = some (.dK (intD la)) ∧ H b = some (.dK (intD lb)) ∧ ∀ r, ((la.length = lb.length ∧ ∀ z ∈ la, valV (intD lb) z.1 = some (.int z.2)) → r = true) → Q (.bl r) H
theorem op_eqDI {X : Cx} (hu : X.A.units + 64 < cLine) : OpR X (compareOp .Eq) rEqDI := by
  intro pins s σ H x y v u Q I rx ry h
  obtain ⟨a, b, la, lb, rfl, rfl, ha, hb, q⟩ := h
  cases rx
  cases ry
  obtain ⟨_, na, ka, ra, da⟩ := dk_of I.hok ha
  obtain ⟨_, nb, kb, rb, db⟩ := dk_of I.hok hb
  obtain ⟨r, hr, hk⟩ := hits_of (A := X.A.in1) (s := s) rb ra
  refine PySem.W.keq_eq na nb da db (by omega) (fun _ => hr) ⟨.bl (ka.length == kb.length && r), H, I, rfl, q _ fun hall => ?_⟩
  rw [hk hall.2, Bool.and_true, beq_iff_eq, ← ra.length, ← rb.length, List.length_map, List.length_map]
  exact hall.1
/-! ### dict(ps), ps a written tuple of written pairs -/
/-- a written tuple of written pairs of ints -/
structure WPairs (K : PySem.W.Frag) (a : Addr) (ps : List (Int × Int)) : Prop where
  ex : ∃ (items : List Addr) (n : Nat) (sl : Array (Option Value)), K.lookup a = some ⟨.type "tuple", none, .seq (items.map Value.ref).toArray n, sl⟩ ∧ Paired (fun (b : Addr) (p : Int × Int) => SqT K (fun _ => none) b [.int p.1, .int p.2]) items ps
theorem wpair_at {K : PySem.W.Frag} {h : Heap} (KX : K.In h) {b : Addr} {p : Int × Int} (hb : SqT K (fun _ => none) b [.int p.1, .int p.2]) : ∃ t u, h.IsTuple b #[.int p.1 t, .int p.2 u] := by
  rcases hb with (hb | ⟨o, hb⟩) | ⟨o, its, n, hl, hc, hd, _, hv⟩
  · cases hb
  · cases hb
  · obtain ⟨its⟩ := its
    cases hv with
    | cons h1 h2 =>
      cases h2 with
      | cons h2 h3 =>
        cases h3
        obtain ⟨t, rfl⟩ := h1
        obtain ⟨u, rfl⟩ := h2
        exact ⟨t, u, o, KX b o hl, hc, n, hd⟩
theorem wpairs_at {K : PySem.W.Frag} {h : Heap} (KX : K.In h) : ∀ {items : List Addr} {ps : List (Int × Int)}, Paired (fun (b : Addr) (p : Int × Int) => SqT K (fun _ => none) b [.int p.1, .int p.2]) items ps →
    ∃ vs : List (Value × Value), vs.length = ps.length ∧ (∀ (j : Nat) (k v : Value), vs[j]? = some (k, v) → ∃ b, items[j]? = some b ∧ h.IsTuple b #[k, v]) ∧ ∃ rs : List (L2.Key × Value), rs.length = ps.length ∧ (∀ (j : Nat) (k v : Value), vs[j]? = some (k, v) → ∃ i t, k = .int i t ∧ rs[j]? = some (Sum.inl i, v)) ∧ KV (ps.map fun z => (Sum.inl z.1, .int z.2)) rs
  | _, _, .nil => ⟨[], rfl, fun j k v h => by simp at h, [], rfl, fun j k v h => by simp at h, .nil⟩
  | _, _, @Paired.cons _ _ _ b p items ps hb ht => by
    obtain ⟨t, u, h1⟩ := wpair_at KX hb
    obtain ⟨vs, l1, h2, rs, l2, h3, h4⟩ := wpairs_at KX ht
    refine ⟨(.int p.1 t, .int p.2 u) :: vs, by simp [l1], fun j k v e => ?_, (Sum.inl p.1, .int p.2 u) :: rs, by simp [l2], fun j k v e => ?_, .cons ⟨rfl, u, rfl⟩ h4⟩
    · cases j with
      | zero => cases e; exact ⟨b, rfl, h1⟩
      | succ j => exact h2 j k v e
    · cases j with
      | zero => cases e; exact ⟨p.1, t, rfl, rfl⟩
      | succ j => exact h3 j k v e
def rDictK (K : PySem.W.Frag) : List V → Hp → VK → Prop := fun vs H Q => ∃ (a : Addr) (ps : List (Int × Int)), vs = [.ref a] ∧ WPairs K a ps ∧ ps.length ≤ 1000 ∧ ∀ p, H p = none → Q (.ref p) (upd H p (.dK (mergeK [] (ps.map fun z => (Sum.inl z.1, .int z.2)))))
theorem call_dictK {X : Cx} (hc : X.calm = true) : CallR X (.type "dict") (rDictK X.K) := by
  intro pins s σ H xs us Q I r h
  obtain ⟨a, ps, rfl, ⟨items, n, sl, hl, hp⟩, hlen, q⟩ := h
  obtain ⟨u, rfl, rx⟩ := vals1 r
  cases rx
  obtain ⟨vs, l1, h2, rs, l2, h3, h4⟩ := wpairs_at I.kIn hp
  have li : items.length = ps.length := hp.length
  have gold := I.kIn a _ hl
  have line := sizeLine_eq
  refine PySem.call_dict_pairs (knd := mixKind X.prog X.w) (kvs := rs) (PySem.PairArg.tuple (prog := X.prog) (w := X.w) a (items.map Value.ref).toArray (fun j => items.getD j 0) vs) (I.ok.hd hc) ⟨⟨_, n, gold, rfl, rfl, rfl⟩, ?_, fun j k v e => ?_⟩ ⟨by rw [l2, l1], fun i k v e => ?_⟩ (by omega) fun h' tk hd kp => ?_
  · rw [List.size_toArray, List.length_map, li, l1]
  · obtain ⟨b, hb, ht⟩ := h2 j k v e
    have eb : items.getD j 0 = b := by rw [List.getD_eq_getElem?_getD, hb]; rfl
    refine ⟨?_, .inl ?_⟩
    · dsimp only
      rw [eb]
      simp [hb]
    · dsimp only
      rw [eb]; exact ht
  · obtain ⟨i', t, rfl, e2⟩ := h3 i k v e
    exact ⟨_, e2, kV_is (k := Sum.inl i') ⟨t, rfl⟩⟩
  · have hz : (mergeK [] (ps.map fun z => ((Sum.inl z.1 : L2.Key), V.int z.2))).length ≤ sizeLine := by
      have := length_mergeK (ps.map fun z => ((Sum.inl z.1 : L2.Key), V.int z.2)) []
      rw [List.length_map, List.length_nil] at this
      omega
    refine ⟨.ref s.heap.objs.size, _, I.laid (t' := tk) (fun b o e => kp b o (by simp) e) (Nat.le_refl _) (dk_new hz ?_ (h4.merge .nil) hd), rfl, q _ (I.hok.fresh (Nat.le_refl _))⟩
    exact beq_eq_false_iff_ne.mpr (Ne.symm (Nat.ne_of_lt I.big))
section
variable {X : Cx} {K : PySem.W.Frag} {w : World}
theorem k_dictK (hK : X.K = K) (hc : X.calm = true) : CallR X (.type "dict") (rDictK K) := by rw [← hK]; exact call_dictK hc
theorem k_ixD (hK : X.K = K) (hw : X.w = w) : IxR X (rIxD K w) := by rw [← hK, ← hw]; exact ix_kdict
theorem k_remD (hK : X.K = K) (hu : X.A.units + 65 < cLine) : MtM X "list.remove" (rRemD K) := by rw [← hK]; exact mt_removeD hu
theorem kmin {e : Expr} {P : Addr} {nm : Str} {N : List Str} {tb : TE} {ta : TA} (hK : X.K = K) (h : PE X e (tMinKey X.K P nm N tb ta)) : PE X e (tMinKey K P nm N tb ta) := hK ▸ h
theorem krevT {e : Expr} {te : TE} (hK : X.K = K) (h : PE X e (tRevT X.K te)) : PE X e (tRevT K te) := hK ▸ h
end
/-! ### readings -/
section
variable {K : PySem.W.Frag} {M : MH} {Φ : Ds → MH → Prop}
theorem xp_refC {ds : DS} {a : Addr} (k : Φ (.adr a) M) : Xp K (tC (.ref a)) ds M Φ := fun σ G H sd I Q q => q _ (.adr a) M G H (.refl I) rfl k
theorem xo_ixD {w : World} {a b : Addr} {z : Str} (h : KDct K w a z (.ref b)) (k : Φ (.adr b) M) : Xo K (rIxD K w) (.adr a) (.dat (.str z)) M Φ := fun G H u v I d1 d2 Q q => by
  cases d1
  cases d2
  exact ⟨a, z, .ref b, rfl, rfl, h, q _ (.adr b) M G H (.refl I) rfl k⟩
/-- numbers by numbers, as a dict keeps them -/
abbrev intM (l : List (L2.Key × Int)) : List (L2.Key × Ds) := l.map fun z => (z.1, .dat (.int z.2))
theorem KP_int {G : Hp} : ∀ {l : List (L2.Key × Int)} {kvs : List (L2.Key × V)}, Paired (fun (p : L2.Key × V) (q : L2.Key × Ds) => p.1 = q.1 ∧ Dv K G p.2 q.2) kvs (intM l) → kvs = intD l
  | [], _, h => by cases h; rfl
  | z :: l, _, h => by
    cases h with
    | @cons p _ _ _ h t =>
      obtain ⟨k, v⟩ := p
      obtain ⟨e1, e2⟩ := h
      have e1 : k = z.1 := e1
      subst e1
      have e2 : Da G v (.int z.2) := e2
      cases e2
      rw [KP_int t]; rfl
theorem KP_make {G : Hp} : ∀ (l : List (L2.Key × Int)), Paired (fun (p : L2.Key × V) (q : L2.Key × Ds) => p.1 = q.1 ∧ Dv K G p.2 q.2) (intD l) (intM l)
  | [] => .nil
  | z :: l => .cons ⟨rfl, Da.int z.2⟩ (KP_make l)
theorem xo_eqDI {a b : Addr} {la lb : List (L2.Key × Int)} (ha : M a = some (.dK (intM la))) (hb : M b = some (.dK (intM lb))) (k : ∀ r, ((la.length = lb.length ∧ ∀ z ∈ la, valV (intD lb) z.1 = some (.int z.2)) → r = true) → Φ (.dat (.bool r)) M) : Xo K rEqDI (.adr a) (.adr b) M Φ := fun G H u v I d1 d2 Q q => by
  cases d1
  cases d2
  obtain ⟨_, o, e1, m1⟩ := I.ob a _ ha
  obtain ⟨_, o2, e2, m2⟩ := I.ob b _ hb
  obtain ⟨_, rfl, p1⟩ := m1.dK
  obtain ⟨_, rfl, p2⟩ := m2.dK
  obtain rfl := KP_int p1
  obtain rfl := KP_int p2
  exact ⟨a, b, la, lb, rfl, rfl, e1, e2, fun r hr => q _ (.dat (.bool r)) M G H (.refl I) (Da.bl r) (k r hr)⟩
theorem xc_dictK {a : Addr} {ps : List (Int × Int)} (h : WPairs K a ps) (hl : ps.length ≤ 1000) (hm : mergeK [] (ps.map fun z => ((Sum.inl z.1 : L2.Key), V.int z.2)) = ps.map fun z => (Sum.inl z.1, V.int z.2)) (k : ∀ p, M p = none → Φ (.adr p) (M.up p (.dK (intM (ps.map fun z => (Sum.inl z.1, z.2)))))) : Xc K (rDictK K) [.adr a] M Φ := fun G H us I d Q q => by
  cases d with
  | cons d1 d2 =>
    cases d2
    cases d1
    refine ⟨a, ps, rfl, h, hl, fun p hp => ?_⟩
    rw [hm]
    have m : MOk K G (.dK (intD (ps.map fun z => (Sum.inl z.1, z.2)))) (.dK (intM (ps.map fun z => (Sum.inl z.1, z.2)))) := KP_make _
    have s := Stp.newM I hp m
    have e : intD (ps.map fun z => ((Sum.inl z.1 : L2.Key), z.2)) = ps.map fun z => (Sum.inl z.1, V.int z.2) := by rw [intD, List.map_map]; rfl
    rw [e] at s
    exact q _ (.adr p) _ _ _ s rfl (k p (I.no hp))
end
/-! ### a def whose code object is known -/
structure CodeAt (K : PySem.W.Frag) (x : Str) (st : Stmt) (f : Addr) (fd : FuncData) (c : Addr) : Prop where
  ex : ∃ (oc : Value) (od : Option Addr) (kV doc pm : Value) (an : Option Addr) (ct : Value) (osl : Array (Option Value)), fd = PySem.W.fnOf x x (defArgs st) (defBody st) (defScope st) .none kV doc pm an (.ref c) ct ∧ K.lookup f = some ⟨oc, od, .func fd, osl⟩ ∧ PySem.W.codeIn K (.ref c) x = true
theorem fn_okC {P : Program} {w : World} {K : PySem.W.Frag} {mg : Str → Option Value} {base : Heap} {x : Str} {st : Stmt} {f c : Addr} {fd : FuncData} {N ps : List Str} {k : Nat} {Pr : SpP} (F : CodeAt K x st f fd c) (S : FnScope N ps (defScope st)) (len : ∀ xs M Φ, Pr xs M Φ → xs.length = ps.length)
    (hb : ∀ (A : Around) (outer : List Env) (s : Shared) (H : Hp) (E : XK), Room k (A.deeper (PyProof.Rows.envOfC x (defScope st) s.heap.objs.size f (.ref c))) → ∃ t, PSs (cxOf CX0 P w K mg base N x (defScope st) f (.ref c) A outer s H E).nox (defBody st) t ∧
      ∀ xs M Φ, Pr xs M Φ → Xs K t (startD N xs) M { nx := fun _ M' => Φ (.dat .none) M', rt := Φ }) : FnOk P w K mg base CX0 (k + 1) f fd ps (spE K Pr) := by
  obtain ⟨oc, od, kV, doc, pm, an, ct, osl, rfl, lk, hcd⟩ := F.ex
  refine fn_of lk hcd S (fun vs H Q E h => ?_) fun A outer s H vs Q E hr h => ?_
  · obtain ⟨G, M, xs, Φ, _, d, p, _⟩ := h
    rw [d.length, len xs M Φ p]
  · obtain ⟨G, M, xs, Φ, I, d, p, q⟩ := h
    obtain ⟨t, h1, h2⟩ := hb A outer s H E hr
    exact ⟨t, h1.nox, h2 xs M Φ p _ G H (sd_start d) I _ ⟨fun σ' ds' M' G' H' s' _ k => q _ (.dat .none) M' G' H' s' Da.non k, fun v x M' G' H' s' d' k => q v x M' G' H' s' d' k, fun _ _ _ _ _ _ _ z => z, fun _ _ _ _ _ _ _ z => z⟩⟩
end K62
end
section
set_option Elab.async false
set_option linter.all false
set_option maxRecDepth 100000
set_option maxHeartbeats 4000000
set_option autoImplicit false
namespace K62
open PySem L2
variable {K : PySem.W.Frag}
section
variable {Gd0 : MH → Prop} {ds : DS} {M : MH} {Φ : Ds → MH → Prop} {wi : TI} {g : TG} {tt : TT} {te : TE} {vs : List Nat} {α : Type} {l : List α} {enc : α → PyData}
/-- a comprehension over data, its items told by a relation -/
theorem xp_mapR (R : α → PyData → Prop) (h1 : XiW K Gd0 wi ds M (l.map enc)) (hg : Gd0 M) (hl : l.length < 100000)
    (h : ∀ (i : Nat) (a : α), l[i]? = some a → Xg K g vs (.dat (enc a)) (wipeD ds vs) M fun ds2 M3 => M3 = M ∧ Xp K te ds2 M fun y M5 => M5 = M ∧ ∃ d, y = .dat d ∧ R a d)
    (k : ∀ es, Paired R l es → Φ (.dat (.list es)) M) : Xp K (tLc wi g tYes te vs) ds M Φ := by
  refine xp_lc fun σ G H sd I Q q => h1 σ G H sd I Q fun J n Gd Y M' G' H' s wk ⟨em, en, eg, hy⟩ => q J n Gd Y M' G' H' s wk ?_
  subst em en
  refine ⟨fun i acc M2 => M2 = M' ∧ ∃ es, acc = dats es ∧ Paired R (l.take i) es, ⟨rfl, [], rfl, by rw [List.take_zero]; exact .nil⟩, fun _ _ M2 _ iv => eg M2 (iv.1 ▸ hg), fun i acc M2 hi ⟨_, es, e, hp⟩ => ?_, fun i x acc M2 M3 hi ⟨e1, es, e2, hp⟩ y => ?_, fun acc M2 ⟨e1, es, e2, hp⟩ => .inl ⟨es, e2, ?_⟩⟩
  · rw [e, List.length_map, ← hp.length, List.length_take]; omega
  · obtain ⟨e3, d, hd, ex⟩ := hy i x M2 M3 y
    obtain ⟨a, ha, rfl⟩ : ∃ a, l[i]? = some a ∧ enc a = d := by
      rw [List.getElem?_map] at hd
      cases q : l[i]? with
      | none => rw [q] at hd; cases hd
      | some a => rw [q] at hd; exact ⟨a, rfl, Option.some.inj hd⟩
    subst e1 e2 e3 ex
    intro σ G H v sd I dv Q q
    refine h i a ha σ G H v sd I dv Q fun σ' ds' M' G' H' ag sd' s' ⟨em, ht⟩ => q σ' ds' M' G' H' ag sd' s' ?_
    subst em
    refine xt_yes ⟨fun _ => xp_mono ht fun y M5 ⟨em, d, ey, hr⟩ => ⟨em, es ++ [d], ?_, ?_⟩, fun h => by cases h⟩
    · rw [ey, dats, dats, List.map_append]; rfl
    · rw [List.take_add_one, ha]
      exact Paired.app hp (.cons hr .nil)
  · subst e1
    rw [List.length_map, List.take_length] at hp
    exact k es hp
end
end K62
end
section
set_option Elab.async false
set_option linter.all false
set_option maxRecDepth 100000
set_option maxHeartbeats 4000000
set_option autoImplicit false
namespace K62
open PySem L2
/-! ### the text by places -/
def topS (i : Nat) : Stmt := PySem.Challenge.pw_signbook_k62_whole_all_signs_tried.main.body.getD i (.Pass ⟨0, 0, 0, 0⟩)
abbrev s_is_whole : Stmt := topS 6
theorem sc_is_whole : FnScope ["thing"] ["thing"] (defScope s_is_whole) := ⟨rfl, rfl, rfl, by decide +kernel, rfl, by decide +kernel, by decide +kernel⟩
abbrev s_is_table : Stmt := topS 9
theorem sc_is_table : FnScope ["thing", "row", "entry"] ["thing"] (defScope s_is_table) := ⟨rfl, rfl, rfl, by decide +kernel, rfl, by decide +kernel, by decide +kernel⟩
abbrev s_check_table : Stmt := topS 10
theorem sc_check_table : FnScope ["thing"] ["thing"] (defScope s_check_table) := ⟨rfl, rfl, rfl, by decide +kernel, rfl, by decide +kernel, by decide +kernel⟩
abbrev s_check_ones : Stmt := topS 11
theorem sc_check_ones : FnScope ["table", "row", "entry"] ["table"] (defScope s_check_ones) := ⟨rfl, rfl, rfl, by decide +kernel, rfl, by decide +kernel, by decide +kernel⟩
abbrev s_picks : Stmt := topS 13
theorem sc_picks : FnScope ["many", "size", "found", "k", "pick", "place"] ["many", "size"] (defScope s_picks) := ⟨rfl, rfl, rfl, by decide +kernel, rfl, by decide +kernel, by decide +kernel⟩
abbrev s_are_right : Stmt := topS 15
theorem sc_are_right : FnScope ["table", "rows", "signs", "column", "row", "sign"] ["table", "rows", "signs"] (defScope s_are_right) := ⟨rfl, rfl, rfl, by decide +kernel, rfl, by decide +kernel, by decide +kernel⟩
abbrev s_sought : Stmt := topS 16
theorem sc_sought : FnScope ["table", "rows", "signs", "sign", "found"] ["table", "rows", "signs"] (defScope s_sought) := ⟨rfl, rfl, rfl, by decide +kernel, rfl, by decide +kernel, by decide +kernel⟩
abbrev s_all_picks : Stmt := topS 17
theorem sc_all_picks : FnScope ["many", "size", "rows"] ["many"] (defScope s_all_picks) := ⟨rfl, rfl, rfl, by decide +kernel, rfl, by decide +kernel, by decide +kernel⟩
abbrev s_first_bare : Stmt := topS 18
theorem sc_first_bare : FnScope ["table", "rows"] ["table"] (defScope s_first_bare) := ⟨rfl, rfl, rfl, by decide +kernel, rfl, by decide +kernel, by decide +kernel⟩
abbrev s_is_unimodular : Stmt := topS 19
theorem sc_is_unimodular : FnScope ["table"] ["table"] (defScope s_is_unimodular) := ⟨rfl, rfl, rfl, by decide +kernel, rfl, by decide +kernel, by decide +kernel⟩
abbrev s_check_small : Stmt := topS 24
theorem sc_check_small : FnScope ["table"] ["table"] (defScope s_check_small) := ⟨rfl, rfl, rfl, by decide +kernel, rfl, by decide +kernel, by decide +kernel⟩
abbrev s_Webs___init__ : Stmt := inClass (topS 25) 0
theorem sc_Webs___init__ : FnScope ["self", "many", "wide"] ["self", "many", "wide"] (defScope s_Webs___init__) := ⟨rfl, rfl, rfl, by decide +kernel, rfl, by decide +kernel, by decide +kernel⟩
abbrev s_Webs_join : Stmt := inClass (topS 25) 1
theorem sc_Webs_join : FnScope ["self", "i", "j", "old", "new", "label"] ["self", "i", "j"] (defScope s_Webs_join) := ⟨rfl, rfl, rfl, by decide +kernel, rfl, by decide +kernel, by decide +kernel⟩
abbrev s_way_between : Stmt := topS 26
theorem sc_way_between : FnScope ["signs", "i", "j", "found", "front", "here", "kind", "at", "other", "spot"] ["signs", "i", "j"] (defScope s_way_between) := ⟨rfl, rfl, rfl, by decide +kernel, rfl, by decide +kernel, by decide +kernel⟩
abbrev s_neighbours : Stmt := topS 27
theorem sc_neighbours : FnScope ["signs", "kind", "at", "i", "j", "sign"] ["signs", "kind", "at"] (defScope s_neighbours) := ⟨rfl, rfl, rfl, by decide +kernel, rfl, by decide +kernel, by decide +kernel⟩
abbrev s_joined_signs : Stmt := topS 28
theorem sc_joined_signs : FnScope ["table", "webs", "signs", "left", "i", "row", "j", "entry"] ["table"] (defScope s_joined_signs) := ⟨rfl, rfl, rfl, by decide +kernel, rfl, by decide +kernel, by decide +kernel⟩
abbrev s_forced_signs : Stmt := topS 29
theorem sc_forced_signs : FnScope ["table", "signs", "left", "ways", "way", "spot", "worth", "i", "j", "a", "b"] ["table"] (defScope s_forced_signs) := ⟨rfl, rfl, rfl, by decide +kernel, rfl, by decide +kernel, by decide +kernel⟩
abbrev s_points_of : Stmt := topS 30
theorem sc_points_of : FnScope ["table", "units", "i", "j", "row"] ["table"] (defScope s_points_of) := ⟨rfl, rfl, rfl, by decide +kernel, rfl, by decide +kernel, by decide +kernel⟩
abbrev s_sums_of : Stmt := topS 31
theorem sc_sums_of : FnScope ["numbers", "found", "number", "one"] ["numbers"] (defScope s_sums_of) := ⟨rfl, rfl, rfl, by decide +kernel, rfl, by decide +kernel, by decide +kernel⟩
abbrev s_kept_sums : Stmt := topS 32
theorem sc_kept_sums : FnScope ["points", "kept", "found", "k", "worth", "size"] ["points", "kept"] (defScope s_kept_sums) := ⟨rfl, rfl, rfl, by decide +kernel, rfl, by decide +kernel, by decide +kernel⟩
abbrev s_kind_by : Stmt := topS 33
theorem sc_kind_by : FnScope ["reached", "sums", "sizes", "worth", "size", "kind"] ["reached", "sums"] (defScope s_kind_by) := ⟨rfl, rfl, rfl, by decide +kernel, rfl, by decide +kernel, by decide +kernel⟩
abbrev s_piece_by_twos : Stmt := topS 34
theorem sc_piece_by_twos : FnScope ["table", "points", "kept", "sums", "rest", "taken", "kind", "k", "size", "pick"] ["table"] (defScope s_piece_by_twos) := ⟨rfl, rfl, rfl, by decide +kernel, rfl, by decide +kernel, by decide +kernel⟩
abbrev s_signed : Stmt := topS 35
theorem sc_signed : FnScope ["table", "signs"] ["table"] (defScope s_signed) := ⟨rfl, rfl, rfl, by decide +kernel, rfl, by decide +kernel, by decide +kernel⟩
abbrev s_law_source_of : Stmt := topS 37
theorem sc_law_source_of : FnScope ["_law_cell"] ["_law_cell"] (defScope s_law_source_of) := ⟨rfl, rfl, rfl, by decide +kernel, rfl, by decide +kernel, by decide +kernel⟩
abbrev s_law_next : Stmt := topS 38
theorem sc_law_next : FnScope ["_law_source", "_law_many", "_law_found", "_law_prime", "_law_figure"] ["_law_source", "_law_many"] (defScope s_law_next) := ⟨rfl, rfl, rfl, by decide +kernel, rfl, by decide +kernel, by decide +kernel⟩
abbrev s_law_one : Stmt := topS 39
theorem sc_law_one : FnScope ["_law_source", "_law_some"] ["_law_source", "_law_some"] (defScope s_law_one) := ⟨rfl, rfl, rfl, by decide +kernel, rfl, by decide +kernel, by decide +kernel⟩
abbrev s_law_cell_at : Stmt := topS 40
theorem sc_law_cell_at : FnScope ["_law_script", "_law_k"] ["_law_script", "_law_k"] (defScope s_law_cell_at) := ⟨rfl, rfl, rfl, by decide +kernel, rfl, by decide +kernel, by decide +kernel⟩
abbrev s_law_mixed : Stmt := topS 41
theorem sc_law_mixed : FnScope ["_law_source", "_law_some", "_law_left", "_law_found"] ["_law_source", "_law_some"] (defScope s_law_mixed) := ⟨rfl, rfl, rfl, by decide +kernel, rfl, by decide +kernel, by decide +kernel⟩
abbrev s_law_ends : Stmt := topS 42
theorem sc_law_ends : FnScope ["_law_source", "_law_many", "_law_places", "_law_found", "_law_k", "_law_two"] ["_law_source", "_law_many"] (defScope s_law_ends) := ⟨rfl, rfl, rfl, by decide +kernel, rfl, by decide +kernel, by decide +kernel⟩
abbrev s_law_net : Stmt := topS 43
theorem sc_law_net : FnScope ["_law_ends_here", "_law_arcs", "_law_far", "_law_k", "_law_begin", "_law_goal", "_law_step", "_law_other", "_law_a", "_law_b"] ["_law_ends_here", "_law_arcs"] (defScope s_law_net) := ⟨rfl, rfl, rfl, by decide +kernel, rfl, by decide +kernel, by decide +kernel⟩
abbrev s_law_net_drawn : Stmt := topS 44
theorem sc_law_net_drawn : FnScope ["_law_source", "_law_many", "_law_wide", "_law_arcs", "_law_k"] ["_law_source", "_law_many", "_law_wide"] (defScope s_law_net_drawn) := ⟨rfl, rfl, rfl, by decide +kernel, rfl, by decide +kernel, by decide +kernel⟩
abbrev s_law_stretches : Stmt := topS 45
theorem sc_law_stretches : FnScope ["_law_source", "_law_many", "_law_wide", "_law_order", "_law_found", "_law_k", "_law_start", "_law_length", "_law_column"] ["_law_source", "_law_many", "_law_wide"] (defScope s_law_stretches) := ⟨rfl, rfl, rfl, by decide +kernel, rfl, by decide +kernel, by decide +kernel⟩
abbrev s_law_swung : Stmt := topS 46
theorem sc_law_swung : FnScope ["_law_source", "_law_table", "_law_rows", "_law_signs", "_law_found", "_law_row", "_law_sign", "_law_column", "_law_k", "_law_a", "_law_b"] ["_law_source", "_law_table"] (defScope s_law_swung) := ⟨rfl, rfl, rfl, by decide +kernel, rfl, by decide +kernel, by decide +kernel⟩
abbrev s_law_twice : Stmt := topS 47
theorem sc_law_twice : FnScope ["_law_table", "_law_row", "_law_column", "_law_found", "_law_i", "_law_j", "_law_more", "_law_line"] ["_law_table", "_law_row", "_law_column"] (defScope s_law_twice) := ⟨rfl, rfl, rfl, by decide +kernel, rfl, by decide +kernel, by decide +kernel⟩
abbrev s_law_fano : Stmt := topS 48
theorem sc_law_fano : FnScope ["_law_source", "_law_table", "_law_k", "_law_row", "_law_column", "_law_order", "_law_entry"] ["_law_source"] (defScope s_law_fano) := ⟨rfl, rfl, rfl, by decide +kernel, rfl, by decide +kernel, by decide +kernel⟩
abbrev s_law_ones : Stmt := topS 49
theorem sc_law_ones : FnScope ["_law_source", "_law_kind", "_law_many", "_law_wide", "_law_thick", "_law_row", "_law_k", "_law_entry"] ["_law_source"] (defScope s_law_ones) := ⟨rfl, rfl, rfl, by decide +kernel, rfl, by decide +kernel, by decide +kernel⟩
abbrev s_law_picks : Stmt := topS 50
theorem sc_law_picks : FnScope ["_law_many", "_law_size", "_law_found", "_law_first", "_law_rest", "_law_k"] ["_law_many", "_law_size"] (defScope s_law_picks) := ⟨rfl, rfl, rfl, by decide +kernel, rfl, by decide +kernel, by decide +kernel⟩
abbrev s_law_unimodular : Stmt := topS 51
theorem sc_law_unimodular : FnScope ["_law_table", "_law_sums", "_law_size", "_law_rows", "_law_i", "_law_more", "_law_one_here", "_law_a", "_law_b"] ["_law_table"] (defScope s_law_unimodular) := ⟨rfl, rfl, rfl, by decide +kernel, rfl, by decide +kernel, by decide +kernel⟩
abbrev s_law_joining : Stmt := topS 52
theorem sc_law_joining : FnScope ["_law_table", "_law_labels", "_law_found", "_law_i", "_law_row", "_law_j", "_law_entry", "_law_old", "_law_new", "_law_label"] ["_law_table"] (defScope s_law_joining) := ⟨rfl, rfl, rfl, by decide +kernel, rfl, by decide +kernel, by decide +kernel⟩
abbrev s_law_thinned : Stmt := topS 53
theorem sc_law_thinned : FnScope ["_law_source", "_law_table", "_law_found", "_law_left", "_law_joining_here", "_law_i", "_law_row", "_law_j", "_law_entry"] ["_law_source", "_law_table"] (defScope s_law_thinned) := ⟨rfl, rfl, rfl, by decide +kernel, rfl, by decide +kernel, by decide +kernel⟩
abbrev s_law_signings : Stmt := topS 54
theorem sc_law_signings : FnScope ["_law_table", "_law_left", "_law_found", "_law_i", "_law_j", "_law_more", "_law_one_here", "_law_row"] ["_law_table", "_law_left"] (defScope s_law_signings) := ⟨rfl, rfl, rfl, by decide +kernel, rfl, by decide +kernel, by decide +kernel⟩
abbrev s_law : Stmt := topS 55
theorem sc_law : FnScope ["_law_script", "_law_cell", "_law_source", "_law_table", "_law_left", "_law_good", "_law_heard", "_law_one_here"] ["_law_script"] (defScope s_law) := ⟨rfl, rfl, rfl, by decide +kernel, rfl, by decide +kernel, by decide +kernel⟩
/-! ### what the top leaves -/
structure Txt (w : World) (K : PySem.W.Frag) (mg : Str → Option Value) where
  d_is_whole : Def K mg "is_whole" s_is_whole ["thing"]
  d_is_table : Def K mg "is_table" s_is_table ["thing"]
  d_check_table : Def K mg "check_table" s_check_table ["thing"]
  d_check_ones : Def K mg "check_ones" s_check_ones ["table"]
  d_picks : Def K mg "picks" s_picks ["many", "size"]
  d_are_right : Def K mg "are_right" s_are_right ["table", "rows", "signs"]
  d_sought : Def K mg "sought" s_sought ["table", "rows", "signs"]
  d_all_picks : Def K mg "all_picks" s_all_picks ["many"]
  d_first_bare : Def K mg "first_bare" s_first_bare ["table"]
  d_is_unimodular : Def K mg "is_unimodular" s_is_unimodular ["table"]
  d_check_small : Def K mg "check_small" s_check_small ["table"]
  d_way_between : Def K mg "way_between" s_way_between ["signs", "i", "j"]
  d_neighbours : Def K mg "neighbours" s_neighbours ["signs", "kind", "at"]
  d_joined_signs : Def K mg "joined_signs" s_joined_signs ["table"]
  d_forced_signs : Def K mg "forced_signs" s_forced_signs ["table"]
  d_points_of : Def K mg "points_of" s_points_of ["table"]
  d_sums_of : Def K mg "sums_of" s_sums_of ["numbers"]
  d_kept_sums : Def K mg "kept_sums" s_kept_sums ["points", "kept"]
  d_kind_by : Def K mg "kind_by" s_kind_by ["reached", "sums"]
  d_piece_by_twos : Def K mg "piece_by_twos" s_piece_by_twos ["table"]
  d_signed : Def K mg "signed" s_signed ["table"]
  d_law_source_of : Def K mg "_law_source_of" s_law_source_of ["_law_cell"]
  d_law_next : Def K mg "_law_next" s_law_next ["_law_source", "_law_many"]
  d_law_one : Def K mg "_law_one" s_law_one ["_law_source", "_law_some"]
  d_law_cell_at : Def K mg "_law_cell_at" s_law_cell_at ["_law_script", "_law_k"]
  d_law_mixed : Def K mg "_law_mixed" s_law_mixed ["_law_source", "_law_some"]
  d_law_ends : Def K mg "_law_ends" s_law_ends ["_law_source", "_law_many"]
  d_law_net : Def K mg "_law_net" s_law_net ["_law_ends_here", "_law_arcs"]
  d_law_net_drawn : Def K mg "_law_net_drawn" s_law_net_drawn ["_law_source", "_law_many", "_law_wide"]
  d_law_stretches : Def K mg "_law_stretches" s_law_stretches ["_law_source", "_law_many", "_law_wide"]
  d_law_swung : Def K mg "_law_swung" s_law_swung ["_law_source", "_law_table"]
  d_law_twice : Def K mg "_law_twice" s_law_twice ["_law_table", "_law_row", "_law_column"]
  d_law_fano : Def K mg "_law_fano" s_law_fano ["_law_source"]
  d_law_ones : Def K mg "_law_ones" s_law_ones ["_law_source"]
  d_law_picks : Def K mg "_law_picks" s_law_picks ["_law_many", "_law_size"]
  d_law_unimodular : Def K mg "_law_unimodular" s_law_unimodular ["_law_table"]
  d_law_joining : Def K mg "_law_joining" s_law_joining ["_law_table"]
  d_law_thinned : Def K mg "_law_thinned" s_law_thinned ["_law_source", "_law_table"]
  d_law_signings : Def K mg "_law_signings" s_law_signings ["_law_table", "_law_left"]
  d_law : Def K mg "law" s_law ["_law_script"]
  z_abs : mg "abs" = none
  z_all : mg "all" = none
  z_bool : mg "bool" = none
  z_dict : mg "dict" = none
  z_enumerate : mg "enumerate" = none
  z_int : mg "int" = none
  z_isinstance : mg "isinstance" = none
  z_len : mg "len" = none
  z_list : mg "list" = none
  z_max : mg "max" = none
  z_min : mg "min" = none
  z_range : mg "range" = none
  z_sum : mg "sum" = none
  z_zip : mg "zip" = none
  t_MOST_PLACES_tables : Tok
  g_MOST_PLACES_tables : mg "MOST_PLACES_tables" = some (.int 8 t_MOST_PLACES_tables)
  t_MOST_PLACES_seven : Tok
  g_MOST_PLACES_seven : mg "MOST_PLACES_seven" = some (.int 5 t_MOST_PLACES_seven)
  t_SEVEN : Tok
  g_SEVEN : mg "SEVEN" = some (.int 7 t_SEVEN)
  CW : Addr
  fI : Addr
  fdI : FuncData
  FI : L2.Fun K "__init__" "Webs.__init__" s_Webs___init__ fI fdI
  bI : Binds K fdI ["self", "many", "wide"] []
  fJ : Addr
  fdJ : FuncData
  FJ : L2.Fun K "join" "Webs.join" s_Webs_join fJ fdJ
  bJ : Binds K fdJ ["self", "i", "j"] []
  mW : mg "Webs" = some (.ref CW)
  clW : Cls K CW
  mkW : Mk K CW fI
  meJ : Meth K CW "join" fJ
  nR : NoAttr K CW "row_labels"
  nC : NoAttr K CW "column_labels"
  aT : Addr
  a7 : Addr
  a4 : Addr
  mT : mg "TIED" = some (.ref aT)
  k7 : KDct K w aT "seven" (.ref a7)
  k4 : KDct K w aT "turned" (.ref a4)
  w7 : WPairs K a7 [(3, 7), (4, 7), (7, 1)]
  w4 : WPairs K a4 [(4, 7)]
  cF : Addr
  pF : Addr
  xF : CodeAt K "forced_signs" s_forced_signs d_forced_signs.f d_forced_signs.fd cF
theorem u64 {A : Around} {k : Nat} (hr : Room k A) : A.units + 64 < cLine := by have := hr.un; omega
theorem u65 {A : Around} {k : Nat} (hr : Room k A) : A.units + 65 < cLine := by have := hr.un; omega
end K62
end
section
set_option Elab.async false
set_option linter.all false
set_option maxRecDepth 100000
set_option maxHeartbeats 4000000
set_option autoImplicit false
namespace K62
open PySem L2
/-! ### one step of a reading -/
local macro_rules | `(tactic| walk_at "x") => `(tactic| first
  | with_reducible refine xs_seq ?_ | with_reducible refine xs_ret ?_ | with_reducible refine xs_set ?_ | with_reducible refine xs_if ?_ | with_reducible refine xs_drop ?_ | with_reducible refine xs_nil ?_ | with_reducible refine xs_for ?_
  | ((with_reducible refine' xp_var ?hv ?_); (case hv => rfl)) | with_reducible refine xp_int ?_ | with_reducible refine xp_bl ?_ | with_reducible refine xp_non ?_ | with_reducible refine xp_str ?_ | with_reducible refine xp_ty ?_
  | with_reducible refine xp_op ?_ | with_reducible refine xp_un ?_ | with_reducible refine xp_cb ?_ | with_reducible refine xp_call ?_ | with_reducible refine xp_andV ?_ | with_reducible refine xp_notV ?_ | with_reducible refine xp_if ?_ | with_reducible refine xp_chain ?_
  | with_reducible refine xp_lc ?_ | with_reducible refine xp_lc2 ?_
  | with_reducible refine xa_cons ?_ | with_reducible refine xa_nil ?_
  | with_reducible refine xt_tst ?_ | with_reducible refine xt_B ?_ | with_reducible refine xt_and ?_ | with_reducible refine xt_or ?_ | with_reducible refine xt_not ?_ | with_reducible refine xt_yes ?_
  | with_reducible refine xi_rng1 ?_ | with_reducible refine xi_rng2 ?_)
section
variable {P : Program} {w : World} {K : PySem.W.Frag} {mg : Str → Option Value} {base : Heap}
def p_is_whole : SpP := fun xs M Φ => ∃ i : Int, xs = [.dat (.int i)] ∧ Φ (.dat (.bool true)) M
theorem ok_is_whole (T : Txt w K mg) : FnOk P w K mg base CX0 1 T.d_is_whole.f T.d_is_whole.fd ["thing"] (spE K p_is_whole) := by
  refine fn_ok T.d_is_whole.F sc_is_whole (fun xs M Φ ⟨i, h, _⟩ => by rw [h]; rfl) fun cdv A outer s H E hr => ?_
  have nd := sc_is_whole.nd
  refine ⟨_, (pss_one (ps_ret (pe_and (pe_callB (k_isi (K := K) rfl) (by rfl) T.z_isinstance (by decide +kernel) (pa_cons (pv 0) (pa_cons (pe_bltn (v := .ty "int") rfl T.z_int (by decide +kernel) rfl) pa_nil))) (pe_one (pe_not (pe_callB (k_isi (K := K) rfl) (by rfl) T.z_isinstance (by decide +kernel) (pa_cons (pv 0) (pa_cons (pe_bltn (v := .ty "bool") rfl T.z_bool (by decide +kernel) rfl) pa_nil)))))))), ?_⟩
  rintro xs M Φ ⟨i, rfl, k⟩
  repeat walk_at "x"
  refine xc_isi (b := true) rfl (by decide +kernel) ?_
  refine ⟨_, rfl, fun _ => ?_, fun h => by cases h⟩
  repeat walk_at "x"
  refine xc_isi (b := false) rfl (by decide +kernel) ?_
  exact ⟨_, rfl, k⟩
/-! ### tables -/

abbrev rowD (r : List Int) : PyData := .list (nums r)
abbrev tabD (T : Tab) : PyData := .list (T.map rowD)
/-- m rows, n columns, one to five of each -/
structure Rect (T : Tab) (m n : Nat) : Prop where
  m0 : 1 ≤ m
  m5 : m ≤ 5
  n0 : 1 ≤ n
  n5 : n ≤ 5
  len : T.length = m
  row : ∀ r ∈ T, r.length = n
theorem Rect.at {T : Tab} {m n : Nat} (h : Rect T m n) {i : Nat} (hi : i < m) : ∃ r, T[i]? = some r ∧ r.length = n := by
  have hl : i < T.length := by rw [h.len]; exact hi
  exact ⟨T[i], by simp [hl], h.row _ (List.getElem_mem hl)⟩
theorem map_at {α β : Type} {f : α → β} {l : List α} {i : Nat} {x : α} (h : l[i]? = some x) : (l.map f)[i]? = some (f x) := by rw [List.getElem?_map, h]; rfl
theorem map_inv {α β : Type} {f : α → β} {l : List α} {i : Nat} {y : β} (h : (l.map f)[i]? = some y) : ∃ x, l[i]? = some x ∧ f x = y := by
  rw [List.getElem?_map] at h
  cases e : l[i]? with
  | none => rw [e] at h; cases h
  | some x => rw [e] at h; exact ⟨x, rfl, Option.some.inj h⟩
theorem yes {A B : Prop} {b : Bool} (hb : b = true) (h : A) : (b = true → A) ∧ (b = false → B) := ⟨fun _ => h, fun e => (by rw [hb] at e; cases e)⟩
theorem no {A B : Prop} {b : Bool} (hb : b = false) (h : B) : (b = true → A) ∧ (b = false → B) := ⟨fun e => (by rw [hb] at e; cases e), fun _ => h⟩
theorem eqv_int (i j : Int) : PyData.eqv (.int i) (.int j) = decide (i = j) := by
  show (i == j) = _
  rw [Bool.beq_eq_decide_eq]
theorem flat_len {f : Int → PyData} {n : Nat} : ∀ {S : Tab}, (∀ r ∈ S, r.length = n) → ((S.map fun r => r.map f).flatten).length = S.length * n
  | [], _ => by simp
  | r :: S, h => by
    rw [List.map_cons, List.flatten_cons, List.length_append, flat_len (S := S) fun x hx => h x (List.mem_cons_of_mem _ hx), List.length_map, h r (List.mem_cons_self ..), List.length_cons, Nat.succ_mul]
    omega
theorem Rect.flat {S : Tab} {m n : Nat} (h : Rect S m n) (f : Int → PyData) (a : Nat) : (((S.take a).map fun r => r.map f).flatten).length ≤ 25 := by
  rw [flat_len (n := n) fun r hr => h.row r (List.mem_of_mem_take hr), List.length_take, h.len]
  have := h.m5
  have := h.n5
  calc min a m * n ≤ 5 * 5 := Nat.mul_le_mul (by omega) (by omega)
    _ = 25 := rfl
/-- a comprehension of two clauses over the rows of a table and their entries, each entry's value told by f -/
theorem xp_cells {ds : DS} {M : MH} {Φ : Ds → MH → Prop} {wi wi1 : TI} {i j : Nat} {te : TE} {vs : List Nat} {S : Tab} {f : Int → PyData} {m n : Nat} (hS : Rect S m n) (hi : i ∈ vs) 
    (h1 : Xi K wi ds M fun k Gd Y M1 => k = S.length ∧ Gd = (fun _ => True) ∧ Y = YI (dats (S.map rowD)) ∧ M1 = M)
    (h2 : ∀ r, r ∈ S → Xi K wi1 ((wipeD ds vs).set i (some (.dat (rowD r)))) M fun k Gd Y M1 => k = r.length ∧ Gd = (fun _ => True) ∧ Y = YI (dats (nums r)) ∧ M1 = M)
    (h3 : ∀ r x, r ∈ S → x ∈ r → Xp K te ((wipeD ((wipeD ds vs).set i (some (.dat (rowD r)))) [j]).set j (some (.dat (.int x)))) M fun y M1 => y = .dat (f x) ∧ M1 = M)
    (k : Φ (.dat (.list ((S.map fun r => r.map f).flatten))) M) : Xp K (tLc2 wi (gName i) tYes wi1 (gName j) tYes te vs [j]) ds M Φ := by
  refine xp_lc2 fun σ G H sd I R q => h1 σ G H sd I R fun J k' Gd Y M' G' H' s wk ⟨e1, e2, e3, e4⟩ => q J k' Gd Y M' G' H' s wk ?_
  subst e1 e2 e3 e4
  refine ⟨fun a acc M2 => M2 = M' ∧ acc = dats (((S.take a).map fun r => r.map f).flatten), ⟨rfl, rfl⟩, fun _ _ _ _ _ => trivial, fun a x acc M2 M3 ha ⟨e1, e2⟩ ⟨hx, e3⟩ => ?_, fun acc M2 ⟨e1, e2⟩ => .inl ⟨_, e2, ?_⟩⟩
  · subst e1 e3
    obtain ⟨d, hd, rfl⟩ := map_inv hx
    obtain ⟨r, hr, rfl⟩ := map_inv hd
    have hrm : r ∈ S := List.mem_iff_getElem?.mpr ⟨a, hr⟩
    refine xg_name hi ?_
    refine xt_yes ⟨fun _ => fun σ G H sd I R q => h2 r hrm σ G H sd I R fun J k' Gd Y M4 G' H' s wk ⟨e1, e2, e3, e4⟩ => q J k' Gd Y M4 G' H' s wk ?_, fun h => by cases h⟩
    subst e1 e2 e3 e4
    refine ⟨fun b acc1 M5 => M5 = M4 ∧ acc1 = acc ++ dats ((r.take b).map f), ⟨rfl, by simp⟩, fun _ _ _ _ _ => trivial, fun b acc1 M5 hb ⟨_, e⟩ => ?_, fun b y acc1 M5 M6 hb ⟨e1, e2⟩ ⟨hy, e3⟩ => ?_, fun acc1 M5 ⟨e1, e2⟩ => ⟨e1, ?_⟩⟩
    · have h5 : acc.length ≤ 25 := by rw [e2, List.length_map]; exact hS.flat f a
      have := hS.row r hrm
      have := hS.n5
      rw [e, List.length_append, List.length_map, List.length_map, List.length_take]
      omega
    · subst e1 e3
      obtain ⟨d, hd, rfl⟩ := map_inv hy
      obtain ⟨v, hv, rfl⟩ := map_inv hd
      refine xg_name (List.mem_singleton.mpr rfl) (xt_yes ⟨fun _ => ?_, fun h => by cases h⟩)
      refine xp_mono (h3 r v hrm (List.mem_iff_getElem?.mpr ⟨b, hv⟩)) fun y M' ⟨ey, em⟩ => ⟨em, ?_⟩
      subst ey e2
      rw [List.append_assoc, List.take_add_one, hv, List.map_append, dats, dats, List.map_append]
      rfl
    · rw [show acc1 = acc ++ dats ((r.take r.length).map f) from e2, List.take_length, List.take_add_one, hr, List.map_append, List.flatten_append, dats, dats, List.map_append, ‹acc = _›]
      simp
  · subst e1
    rw [List.take_length]
    exact k
theorem xi_var {i : Nat} {ds : DS} {M : MH} {es : List PyData} (h : ds[i]? = some (some (.dat (.list es)))) : Xi K (iList K (tVar i)) ds M fun k Gd Y M1 => k = es.length ∧ Gd = (fun _ => True) ∧ Y = YI (dats es) ∧ M1 = M :=
  xi_list (xp_var h ⟨es, rfl, rfl, rfl, rfl, rfl⟩)
theorem xi_varN {i : Nat} {ds : DS} {M : MH} {r : List Int} (h : ds[i]? = some (some (.dat (.list (nums r))))) : Xi K (iList K (tVar i)) ds M fun k Gd Y M1 => k = r.length ∧ Gd = (fun _ => True) ∧ Y = YI (dats (nums r)) ∧ M1 = M :=
  xi_list (xp_var h ⟨_, rfl, List.length_map _, rfl, rfl, rfl⟩)
theorem xi_varT {i : Nat} {ds : DS} {M : MH} {S : Tab} (h : ds[i]? = some (some (.dat (tabD S)))) : Xi K (iList K (tVar i)) ds M fun k Gd Y M1 => k = S.length ∧ Gd = (fun _ => True) ∧ Y = YI (dats (S.map rowD)) ∧ M1 = M :=
  xi_list (xp_var h ⟨_, rfl, List.length_map _, rfl, rfl, rfl⟩)
def p_is_table : SpP := fun xs M Φ => ∃ (S : Tab) (m n : Nat), Rect S m n ∧ xs = [.dat (tabD S)] ∧ Φ (.dat (.bool true)) M
theorem ok_is_table (T : Txt w K mg) : FnOk P w K mg base CX0 2 T.d_is_table.f T.d_is_table.fd ["thing"] (spE K p_is_table) := by
  refine fn_ok T.d_is_table.F sc_is_table (fun xs M Φ ⟨_, _, _, _, h, _⟩ => by rw [h]; rfl) fun cdv A outer s H E hr => ?_
  have nd := sc_is_table.nd
  refine ⟨_, (pss_cons (ps_if (PW.pt (pw_or (pt_not (pt_val (pe_callB (k_isi (K := K) rfl) (by rfl) T.z_isinstance (by decide +kernel) (pa_cons (pv 0) (pa_cons (pe_bltn (v := .ty "list") rfl T.z_list (by decide +kernel) rfl) pa_nil))))) (pw_or1 (pt_not (pt_chain op_le op_le pe_int (pe_callB (k_len (K := K) rfl) (by rfl) T.z_len (by decide +kernel) (pa_cons (pv 0) pa_nil)) (pe_glob (v := .int 8) rfl T.g_MOST_PLACES_tables ⟨_, rfl⟩)))))) (pss_one (ps_ret pe_bl)) pss_nil)
      (pss_cons (ps_for PassesOwn.never rfl (kiL (K := K) rfl (pi_list (pv 0))) (pg_name (i := 1) nd rfl (Or.inl rfl)) (pss_one (ps_if (PW.pt (pw_or (pt_not (pt_val (pe_callB (k_isi (K := K) rfl) (by rfl) T.z_isinstance (by decide +kernel) (pa_cons (pv 1) (pa_cons (pe_bltn (v := .ty "list") rfl T.z_list (by decide +kernel) rfl) pa_nil))))) (pw_or (pt_not (pt_chain op_le op_le pe_int (pe_callB (k_len (K := K) rfl) (by rfl) T.z_len (by decide +kernel) (pa_cons (pv 1) pa_nil)) (pe_glob (v := .int 8) rfl T.g_MOST_PLACES_tables ⟨_, rfl⟩))) (pw_or1 (pt_cmpR (k_ne (K := K) rfl (u64 hr)) (pe_callB (k_len (K := K) rfl) (by rfl) T.z_len (by decide +kernel) (pa_cons (pv 1) pa_nil)) (pe_callB (k_len (K := K) rfl) (by rfl) T.z_len (by decide +kernel) (pa_cons (pe_ix (k_ix (K := K) rfl) (pv 0) pe_int (fun _ _ => rfl)) pa_nil)) (nomark _)))))) (pss_one (ps_ret pe_bl)) pss_nil)))
      (pss_one (ps_ret (pe_callB (k_all (K := K) rfl rfl) (by rfl) T.z_all (by decide +kernel) (pa_cons (pe_lc2 (own := [("row", 1), ("entry", 2)]) (vs1 := [2]) rfl nd (kiL (K := K) rfl (pi_list (pv 0))) (blkOk_by (by kernel_rfl)) (by decide) (fun _ _ _ _ _ => (pg_name (i := 1) nd rfl (Or.inl rfl))) (fun _ _ _ _ _ => pts_nil) (fun _ _ _ _ _ => (kiL (K := K) rfl (pi_list (pv 1)))) (fun _ _ _ _ _ => (pg_name (i := 2) nd rfl (Or.inl rfl))) (fun _ _ _ _ _ => pts_nil) (fun _ _ _ _ _ => (pe_call (ok_is_whole T) (hr.mono (by first | decide | omega)) rfl T.d_is_whole.m T.d_is_whole.F.kp T.d_is_whole.b .nil pass0 (pa_cons (pv 2) pa_nil)))) pa_nil)))))), ?_⟩
  rintro xs M Φ ⟨S, m, n, hS, rfl, k⟩
  have hm := hS.len
  have m0 := hS.m0
  have m5 := hS.m5
  have n0 := hS.n0
  have n5 := hS.n5
  repeat walk_at "x"
  -- isinstance(thing, list), 1 <= len(thing) <= 8
  refine xc_isi (b := true) rfl (by decide +kernel) ⟨_, rfl, no rfl ?_⟩
  repeat walk_at "x"
  refine xc_len (.dat _) (xo_b0 ⟨_, rfl, yes (by rw [List.length_map]; exact decide_eq_true (by omega)) ?_⟩)
  repeat walk_at "x"
  refine xo_b0 ⟨_, rfl, ?_⟩
  refine no (by rw [List.length_map, decide_eq_true (show ((S.length : Nat) : Int) ≤ 8 by omega)]; rfl) ?_
  refine xs_nil ?_
  -- for row in thing
  repeat walk_at "x"
  refine xi_list ?_
  repeat walk_at "x"
  refine ⟨_, rfl, [1], fun i ds' M' => ∃ x, ds' = [some (.dat (tabD S)), x, none] ∧ M' = M, ⟨none, rfl, rfl⟩, fun _ _ _ _ _ => trivial, ?_, ?_⟩
  · rintro i x ds' M' M2 hi ⟨y, rfl, rfl⟩ ⟨hx, rfl⟩
    obtain ⟨d, hd, rfl⟩ := map_inv hx
    obtain ⟨r, hr, rfl⟩ := map_inv hd
    have hl := hS.row r (List.mem_iff_getElem?.mpr ⟨i, hr⟩)
    refine xg_name (by decide) ?_
    repeat walk_at "x"
    refine xc_isi (b := true) rfl (by decide +kernel) ⟨_, rfl, no rfl ?_⟩
    repeat walk_at "x"
    refine xc_len (.dat _) (xo_b0 ⟨_, rfl, yes (by rw [List.length_map, hl]; exact decide_eq_true (by omega)) ?_⟩)
    repeat walk_at "x"
    refine xo_b0 ⟨_, rfl, ?_⟩
    refine no (by rw [List.length_map, hl, decide_eq_true (show ((n : Nat) : Int) ≤ 8 by omega)]; rfl) ?_
    repeat walk_at "x"
    refine xc_len (.dat _) ?_
    repeat walk_at "x"
    obtain ⟨r0, hr0, hl0⟩ := hS.at (i := 0) (by omega)
    refine xo_ixL (d := rowD r0) (at_nat (j := 0) (map_at hr0)) ?_
    repeat walk_at "x"
    refine xc_len (.dat _) (xo_neD (.dat _) (.dat _) (shD.int _ _) (shD.int _ _) ⟨_, rfl, ?_⟩)
    refine no (by rw [List.length_map, List.length_map, hl, hl0, eqv_int, decide_eq_true rfl]; rfl) ?_
    exact xs_nil ⟨_, rfl, rfl⟩
  · rintro ds' M' ⟨y, rfl, rfl⟩
    -- all([is_whole(entry) ..])
    refine xs_ret (xp_cb (xa_cons ?_))
    refine xp_cells (f := fun _ => .bool true) hS (by decide) (xi_varT rfl) (fun r _ => xi_varN rfl) (fun r x _ _ => ?_) ?_
    · repeat walk_at "x"
      exact ⟨x, rfl, rfl, rfl⟩
    · refine xa_nil ?_
      have e : (S.map fun r => r.map fun _ => PyData.bool true).flatten = (List.replicate (S.map fun r => r.map fun _ => true).flatten.length true).map PyData.bool := by
        rw [List.map_replicate]
        refine List.eq_replicate_iff.mpr ⟨?_, fun b hb => ?_⟩
        · rw [List.length_flatten, List.length_flatten, List.map_map, List.map_map]
          congr 1
          exact List.map_congr_left fun r _ => by simp
        · obtain ⟨l, hl, hb⟩ := List.mem_flatten.mp hb
          obtain ⟨r, _, rfl⟩ := List.mem_map.mp hl
          obtain ⟨_, _, rfl⟩ := List.mem_map.mp hb
          rfl
      rw [e]
      refine xc_all ?_
      rw [show (List.replicate (S.map fun r => r.map fun _ => true).flatten.length true).all id = true from List.all_eq_true.mpr fun b hb => by rw [List.mem_replicate] at hb; rw [hb.2]; rfl]
      exact k
def p_check : SpP := fun xs M Φ => ∃ (S : Tab) (m n : Nat), Rect S m n ∧ xs = [.dat (tabD S)] ∧ Φ (.dat .none) M
theorem ok_check_table (T : Txt w K mg) : FnOk P w K mg base CX0 3 T.d_check_table.f T.d_check_table.fd ["thing"] (spE K p_check) := by
  refine fn_ok T.d_check_table.F sc_check_table (fun xs M Φ ⟨_, _, _, _, h, _⟩ => by rw [h]; rfl) fun cdv A outer s H E hr => ?_
  have nd := sc_check_table.nd
  refine ⟨_, (pss_one (ps_if (pt_not (pt_val (pe_call (ok_is_table T) (hr.mono (by first | decide | omega)) rfl T.d_is_table.m T.d_is_table.F.kp T.d_is_table.b .nil pass0 (pa_cons (pv 0) pa_nil)))) (pss_one ps_never) pss_nil)), ?_⟩
  rintro xs M Φ ⟨S, m, n, hS, rfl, k⟩
  repeat walk_at "x"
  exact ⟨S, m, n, hS, rfl, _, rfl, no rfl (xs_nil k)⟩
/-- a table of noughts and ones -/
def Ones (S : Tab) : Prop := ∀ r ∈ S, ∀ x ∈ r, x = 0 ∨ x = 1
def p_ones : SpP := fun xs M Φ => ∃ (S : Tab) (m n : Nat), Rect S m n ∧ Ones S ∧ xs = [.dat (tabD S)] ∧ Φ (.dat .none) M
theorem ok_check_ones (T : Txt w K mg) : FnOk P w K mg base CX0 4 T.d_check_ones.f T.d_check_ones.fd ["table"] (spE K p_ones) := by
  refine fn_ok T.d_check_ones.F sc_check_ones (fun xs M Φ ⟨_, _, _, _, _, h, _⟩ => by rw [h]; rfl) fun cdv A outer s H E hr => ?_
  have nd := sc_check_ones.nd
  refine ⟨_, (pss_cons (ps_expr (pe_call (ok_check_table T) (hr.mono (by first | decide | omega)) rfl T.d_check_table.m T.d_check_table.F.kp T.d_check_table.b .nil pass0 (pa_cons (pv 0) pa_nil)))
      (pss_one (ps_if (pt_not (pt_val (pe_callB (k_all (K := K) rfl rfl) (by rfl) T.z_all (by decide +kernel) (pa_cons (pe_lc2 (own := [("row", 1), ("entry", 2)]) (vs1 := [2]) rfl nd (kiL (K := K) rfl (pi_list (pv 0))) (blkOk_by (by kernel_rfl)) (by decide) (fun _ _ _ _ _ => (pg_name (i := 1) nd rfl (Or.inl rfl))) (fun _ _ _ _ _ => pts_nil) (fun _ _ _ _ _ => (kiL (K := K) rfl (pi_list (pv 1)))) (fun _ _ _ _ _ => (pg_name (i := 2) nd rfl (Or.inl rfl))) (fun _ _ _ _ _ => pts_nil) (fun _ _ _ _ _ => (pe_cmpR (k_inT (K := K) rfl) (pv 2) (pe_tup (pa_cons pe_int (pa_cons pe_int pa_nil))) (by rfl)))) pa_nil)))) (pss_one ps_never) pss_nil))), ?_⟩
  rintro xs M Φ ⟨S, m, n, hS, h01, rfl, k⟩
  repeat walk_at "x"
  refine ⟨S, m, n, hS, rfl, ?_⟩
  refine xs_if (xt_not (xt_B (xp_cb (xa_cons ?_))))
  refine xp_cells (f := fun _ => .bool true) hS (by decide) (xi_varT rfl) (fun r _ => xi_varN rfl) (fun r x hr hx => ?_) ?_
  · repeat walk_at "x"
    refine xp_tup ?_
    repeat walk_at "x"
    refine ⟨nums [0, 1], rfl, by decide, xo_inT ?_⟩
    have e : decide (x ∈ ([0, 1] : List Int)) = true := decide_eq_true (by rcases h01 r hr x hx with rfl | rfl <;> decide)
    rw [e]
    exact ⟨rfl, rfl⟩
  · refine xa_nil ?_
    obtain ⟨c, hc⟩ : ∃ c, (S.map fun r => r.map fun _ => PyData.bool true).flatten = (List.replicate c true).map PyData.bool := by
      refine ⟨(S.map fun r => r.map fun _ => PyData.bool true).flatten.length, ?_⟩
      rw [List.map_replicate]
      refine List.eq_replicate_iff.mpr ⟨rfl, fun b hb => ?_⟩
      obtain ⟨l, hl, hb⟩ := List.mem_flatten.mp hb
      obtain ⟨r, _, rfl⟩ := List.mem_map.mp hl
      obtain ⟨_, _, rfl⟩ := List.mem_map.mp hb
      rfl
    rw [hc]
    refine xc_all ⟨_, rfl, ?_⟩
    exact no (by rw [show (List.replicate c true).all id = true from List.all_eq_true.mpr fun b hb => by rw [List.mem_replicate] at hb; rw [hb.2]; rfl]; rfl) (xs_nil k)
theorem ok_check_small (T : Txt w K mg) : FnOk P w K mg base CX0 5 T.d_check_small.f T.d_check_small.fd ["table"] (spE K p_ones) := by
  refine fn_ok T.d_check_small.F sc_check_small (fun xs M Φ ⟨_, _, _, _, _, h, _⟩ => by rw [h]; rfl) fun cdv A outer s H E hr => ?_
  have nd := sc_check_small.nd
  refine ⟨_, (pss_cons (ps_expr (pe_call (ok_check_ones T) (hr.mono (by first | decide | omega)) rfl T.d_check_ones.m T.d_check_ones.F.kp T.d_check_ones.b .nil pass0 (pa_cons (pv 0) pa_nil)))
      (pss_one (ps_if (PW.pt (pw_or (pt_cmpR op_gt (pe_callB (k_len (K := K) rfl) (by rfl) T.z_len (by decide +kernel) (pa_cons (pv 0) pa_nil)) (pe_glob (v := .int 5) rfl T.g_MOST_PLACES_seven ⟨_, rfl⟩) (nomark _)) (pw_or1 (pt_cmpR op_gt (pe_callB (k_len (K := K) rfl) (by rfl) T.z_len (by decide +kernel) (pa_cons (pe_ix (k_ix (K := K) rfl) (pv 0) pe_int (fun _ _ => rfl)) pa_nil)) (pe_glob (v := .int 5) rfl T.g_MOST_PLACES_seven ⟨_, rfl⟩) (nomark _))))) (pss_one ps_never) pss_nil))), ?_⟩
  rintro xs M Φ ⟨S, m, n, hS, h01, rfl, k⟩
  repeat walk_at "x"
  refine ⟨S, m, n, hS, h01, rfl, ?_⟩
  have m5 := hS.m5
  have n5 := hS.n5
  have m0 := hS.m0
  obtain ⟨r0, hr0, hl0⟩ := hS.at (i := 0) (by omega)
  repeat walk_at "x"
  refine xc_len (.dat _) (xp_int (xo_b0 ⟨_, rfl, no (by rw [List.length_map, hS.len]; exact decide_eq_false (by omega)) ?_⟩))
  repeat walk_at "x"
  refine xo_ixL (d := rowD r0) (at_nat (j := 0) (map_at hr0)) ?_
  repeat walk_at "x"
  refine xc_len (.dat _) (xp_int (xo_b0 ⟨_, rfl, no (by rw [List.length_map, hl0]; exact decide_eq_false (by omega)) (xs_nil k)⟩))
end
end K62
end
section
set_option Elab.async false
set_option linter.all false
set_option maxRecDepth 100000
set_option maxHeartbeats 4000000
set_option autoImplicit false
namespace K62
open PySem L2
local macro_rules | `(tactic| walk_at "x") => `(tactic| first
  | with_reducible refine xs_seq ?_ | with_reducible refine xs_ret ?_ | with_reducible refine xs_set ?_ | with_reducible refine xs_if ?_ | with_reducible refine xs_drop ?_ | with_reducible refine xs_nil ?_ | with_reducible refine xs_for ?_
  | ((with_reducible refine' xp_var ?hv ?_); (case hv => rfl)) | with_reducible refine xp_int ?_ | with_reducible refine xp_bl ?_ | with_reducible refine xp_non ?_ | with_reducible refine xp_str ?_ | with_reducible refine xp_ty ?_
  | with_reducible refine xp_op ?_ | with_reducible refine xp_un ?_ | with_reducible refine xp_cb ?_ | with_reducible refine xp_call ?_ | with_reducible refine xp_andV ?_ | with_reducible refine xp_notV ?_ | with_reducible refine xp_if ?_ | with_reducible refine xp_chain ?_
  | with_reducible refine xp_lc ?_ | with_reducible refine xp_lc2 ?_
  | with_reducible refine xa_cons ?_ | with_reducible refine xa_nil ?_
  | with_reducible refine xt_tst ?_ | with_reducible refine xt_B ?_ | with_reducible refine xt_and ?_ | with_reducible refine xt_or ?_ | with_reducible refine xt_not ?_ | with_reducible refine xt_yes ?_
  | with_reducible refine xi_rng1 ?_ | with_reducible refine xi_rng2 ?_)
section
variable {P : Program} {w : World} {K : PySem.W.Frag} {mg : Str → Option Value} {base : Heap}
abbrev natI (p : List Nat) : List Int := p.map fun k => ((k : Nat) : Int)
abbrev pD (p : List Nat) : PyData := rowD (natI p)
theorem natI_app (p q : List Nat) : natI (p ++ q) = natI p ++ natI q := List.map_append
theorem last_at {p : List Nat} {q : Nat} (h : p.getLast? = some q) : atI (nums (natI p)) (-1) = some (.int q) := by
  rcases List.eq_nil_or_concat p with rfl | ⟨r, x, rfl⟩
  · cases h
  · rw [List.concat_eq_append] at h ⊢
    rw [List.getLast?_concat] at h
    cases h
    rw [natI_app, nums, List.map_append]
    exact atI_last _ _
theorem eqv_nil (es : List PyData) : PyData.eqv (.list es) (.list []) = es.isEmpty := by cases es <;> rfl
theorem Rise.next_le {many : Nat} {p : List Nat} (h : Rise many p) : nextOf p ≤ many := by
  unfold nextOf
  cases q : p.getLast? with
  | none => exact Nat.zero_le _
  | some x => exact h.le x (List.mem_of_getLast? q)
theorem len1 {α : Type} {x : α} : [x].length ≤ 100000 := Nat.succ_le_succ (Nat.zero_le _)
theorem picks_step (many i : Nat) : ((picksN many i).flatMap fun p => ((List.range (many - nextOf p)).map fun i => nextOf p + i).map fun x => pD (p ++ [x])) = (picksN many (i + 1)).map pD := by
  show _ = ((picksN many i).flatMap fun p => (List.range (many - nextOf p)).map fun i => p ++ [nextOf p + i]).map pD
  rw [List.map_flatMap]
  congr 1
  funext p
  rw [List.map_map, List.map_map]
  rfl
def p_picks : SpP := fun xs M Φ => ∃ many size : Nat, many < 10 ∧ size < 10 ∧ xs = [.dat (.int many), .dat (.int size)] ∧ Φ (.dat (.list ((picksN many size).map pD))) M
theorem ok_picks (T : Txt w K mg) : FnOk P w K mg base CX0 1 T.d_picks.f T.d_picks.fd ["many", "size"] (spE K p_picks) := by
  refine fn_ok T.d_picks.F sc_picks (fun xs M Φ ⟨_, _, _, _, h, _⟩ => by rw [h]; rfl) fun cdv A outer s H E hr => ?_
  have nd := sc_picks.nd
  refine ⟨_, (pss_cons (ps_set (i := 2) nd rfl (Or.inl rfl) (pe_lst (pa_cons (pe_lst pa_nil) pa_nil)))
      (pss_cons (ps_for PassesOwn.never rfl (pi_range1 (by rfl) T.z_range (pa_cons (pv 1) pa_nil)) (pg_name (i := 3) nd rfl (Or.inl rfl)) (pss_one (ps_setLc2 (i := 2) (own := [("pick", 4), ("place", 5)]) (vs1 := [5]) rfl nd rfl rfl (sw_true rfl rfl rfl (by decide +kernel)) (kiL (K := K) rfl (pi_list (pv 2))) (blkOk_by (by kernel_rfl)) (by decide) (fun _ _ _ _ _ => (pg_name (i := 4) nd rfl (Or.inl rfl))) (fun _ _ _ _ _ => pts_nil) (fun _ _ _ _ _ => (pi_range2 (by rfl) T.z_range (pa_cons (pe_ifExp (pt_cmpR (k_ne (K := K) rfl (u64 hr)) (pv 4) (pe_lst pa_nil) (nomark _)) (pe_op op_add (pe_ix (k_ix (K := K) rfl) (pv 4) (pe_un un_neg pe_int) (fun _ _ => rfl)) pe_int) pe_int) (pa_cons (pv 0) pa_nil)))) (fun _ _ _ _ _ => (pg_name (i := 5) nd rfl (Or.inl rfl))) (fun _ _ _ _ _ => pts_nil) (fun _ _ _ _ _ => (pe_op op_cat (pv 4) (pe_lst (pa_cons (pv 5) pa_nil)))))))
      (pss_one (ps_ret (pv 2))))), ?_⟩
  rintro xs M Φ ⟨many, size, hm, hs, rfl, k⟩
  refine xs_seq (xs_set (xp_lst (xa_cons (xp_lst (xa_nil ⟨[], rfl, by decide, xa_nil ⟨[.list []], rfl, by decide, ?_⟩⟩)))))
  refine xs_seq (xs_forD (l := List.range size) [3] (fun i ds' M' => ∃ x y z, M' = M ∧ ds' = [some (.dat (.int many)), some (.dat (.int size)), some (.dat (.list ((picksN many i).map pD))), x, y, z])
    (by rw [← rngD0]; exact xd_rng1 (n := size) (by omega) (xa_cons (xp_var rfl (xa_nil ⟨rfl, rfl⟩)))) ⟨_, _, _, rfl, rfl⟩ ?_ ?_)
  · rintro i d ds' M' hd ⟨x, y, z, rfl, rfl⟩
    have hi : i < size := by have := (List.getElem?_eq_some_iff.mp hd).1; rw [List.length_range] at this; exact this
    have few := picksN_few many hm
    refine xg_name (by decide) (xs_set ?_)
    refine xp_lc2D (fun p => (List.range (many - nextOf p)).map fun i => nextOf p + i) (fun x : Nat => .int x) (fun p x => pD (p ++ [x])) (xd_var rfl) ?_ ?_ ?_
    · intro j p hp
      refine xg_name (by decide) ⟨rfl, ?_, ?_⟩
      · have e : rngD (nextOf p : Nat) ((many : Int) - (nextOf p : Nat)).toNat = ((List.range (many - nextOf p)).map fun i => nextOf p + i).map fun x : Nat => PyData.int x := by
          unfold rngD
          rw [List.map_map, show ((many : Int) - (nextOf p : Nat)).toNat = many - nextOf p by omega]
          exact List.map_congr_left fun i _ => by simp
        have hr := ((mem_picksN _ _).mp (List.mem_iff_getElem?.mpr ⟨j, hp⟩)).2.next_le
        rw [← e]
        refine xd_rng2 (by omega) (by omega) (by omega) (by omega) (xa_cons (xp_if ?_))
        refine xt_tst (xp_op (xp_var rfl (xp_lst (xa_nil ⟨[], rfl, by decide, xo_neD (.dat _) (.dat _) (shD.mono (shD.nums 0 _) (by decide)) (shD.mono (shD.nil 0) (by decide)) ⟨_, rfl, ?_⟩⟩))))
        rw [eqv_nil]
        cases q : p.getLast? with
        | none =>
          obtain rfl : p = [] := List.getLast?_eq_none_iff.mp q
          exact no rfl (xp_int (xa_cons (xp_var rfl (xa_nil ⟨rfl, rfl⟩))))
        | some q' =>
          refine yes (by cases p with | nil => cases q | cons _ _ => rfl) ?_
          refine xp_op (xp_op (xp_var rfl (xp_un (xp_int (xu_neg (xo_ixL (last_at q) (xp_int (xo_i0 (xa_cons (xp_var rfl (xa_nil ⟨?_, rfl⟩)))))))))))
          unfold nextOf
          rw [q]
          rfl
      · intro j2 x hx
        refine xg_name (by decide) ⟨rfl, ?_⟩
        refine xp_op (xp_var rfl (xp_lst (xa_cons (xp_var rfl (xa_nil ⟨[.int x], rfl, len1, ?_⟩)))))
        refine xo_cat ?_ ⟨rfl, ?_⟩
        · have := ((mem_picksN _ _).mp (List.mem_iff_getElem?.mpr ⟨j, hp⟩)).1
          rw [List.length_map, List.length_map, this]
          show i + 1 ≤ 100000
          omega
        · rw [pD, natI_app, rowD, nums, nums, List.map_append]; rfl
    · rw [picks_step, List.length_map]
      exact Nat.lt_of_le_of_lt (few (i + 1) (by omega)) (by decide)
    · rw [picks_step]
      exact ⟨_, _, _, rfl, rfl⟩
  · rintro ds' M' ⟨x, y, z, rfl, rfl⟩
    refine xs_ret (xp_var rfl ?_)
    rw [List.length_range]
    exact k
end
end K62
end
section
set_option Elab.async false
set_option linter.all false
set_option maxRecDepth 100000
set_option maxHeartbeats 4000000
set_option autoImplicit false
namespace K62
open PySem L2
local macro_rules | `(tactic| walk_at "x") => `(tactic| first
  | with_reducible refine xs_seq ?_ | with_reducible refine xs_ret ?_ | with_reducible refine xs_set ?_ | with_reducible refine xs_if ?_ | with_reducible refine xs_drop ?_ | with_reducible refine xs_nil ?_ | with_reducible refine xs_for ?_
  | ((with_reducible refine' xp_var ?hv ?_); (case hv => rfl)) | with_reducible refine xp_int ?_ | with_reducible refine xp_bl ?_ | with_reducible refine xp_non ?_ | with_reducible refine xp_str ?_ | with_reducible refine xp_ty ?_
  | with_reducible refine xp_op ?_ | with_reducible refine xp_un ?_ | with_reducible refine xp_cb ?_ | with_reducible refine xp_call ?_ | with_reducible refine xp_andV ?_ | with_reducible refine xp_notV ?_ | with_reducible refine xp_if ?_ | with_reducible refine xp_chain ?_
  | with_reducible refine xp_lc ?_ | with_reducible refine xp_lc2 ?_
  | with_reducible refine xa_cons ?_ | with_reducible refine xa_nil ?_
  | with_reducible refine xt_tst ?_ | with_reducible refine xt_B ?_ | with_reducible refine xt_and ?_ | with_reducible refine xt_or ?_ | with_reducible refine xt_not ?_ | with_reducible refine xt_yes ?_
  | with_reducible refine xi_rng1 ?_ | with_reducible refine xi_rng2 ?_)
section
variable {P : Program} {w : World} {K : PySem.W.Frag} {mg : Str → Option Value} {base : Heap}
/-- of what is never asked -/
theorem fn_none {f : Addr} {fd : FuncData} {ps : List Str} {k : Nat} : FnOk P w K mg base CX0 k f fd ps (spE K fun _ _ _ => False) :=
  ⟨fun _ _ _ _ ⟨_, _, _, _, _, _, h, _⟩ => h.elim, fun _ _ _ _ _ _ _ _ _ _ _ _ _ ⟨_, _, _, _, _, _, h, _⟩ => h.elim⟩
theorem Rect.cell {S : Tab} {m n : Nat} (h : Rect S m n) {i j : Nat} (hi : i < m) (hj : j < n) : ∃ r, S[i]? = some r ∧ r[j]? = some (ent S i j) := by
  obtain ⟨r, hr, hl⟩ := h.at hi
  refine ⟨r, hr, ?_⟩
  unfold ent
  simp only [List.getD_eq_getElem?_getD, hr, Option.getD_some, List.getElem?_eq_getElem (show j < r.length by omega)]
theorem range_at {n i d : Nat} (h : (List.range n)[i]? = some d) : i < n ∧ i = d := by
  have hl : i < n := by have := (List.getElem?_eq_some_iff.mp h).1; rw [List.length_range] at this; exact this
  rw [List.getElem?_range hl] at h
  exact ⟨hl, Option.some.inj h⟩
theorem pD_eq (p : List Nat) : pD p = .list (p.map fun k : Nat => PyData.int k) := by rw [pD, rowD, nums, List.map_map]; rfl
/-- S[i][j] -/
theorem xp_cell {ds : DS} {M : MH} {Φ : Ds → MH → Prop} {tt ti tj : TE} {S : Tab} {m n i j : Nat} (hS : Rect S m n) (hi : i < m) (hj : j < n) (h : Xp K tt ds M fun x M1 => x = .dat (tabD S) ∧ Xp K ti ds M1 fun y M2 => y = .dat (.int i) ∧ Xp K tj ds M2 fun z M3 => z = .dat (.int j) ∧ Φ (.dat (.int (ent S i j))) M3) :
    Xp K (tOp (rIx K) (tOp (rIx K) tt ti) tj) ds M Φ := by
  obtain ⟨r, hr, hv⟩ := hS.cell hi hj
  refine xp_op (xp_op (xp_mono h fun x M1 ⟨e, h2⟩ => xp_mono h2 fun y M2 ⟨e2, h3⟩ => ?_))
  subst e e2
  refine xo_ixL (d := rowD r) (at_nat (map_at hr)) (xp_mono h3 fun z M3 ⟨e3, k⟩ => ?_)
  subst e3
  exact xo_ixL (at_nat (map_at hv)) k
/-- len(S[0]) -/
theorem xp_wide {ds : DS} {M : MH} {Φ : Ds → MH → Prop} {i : Nat} {S : Tab} {m n : Nat} (hS : Rect S m n) (hv : ds[i]? = some (some (.dat (tabD S)))) (k : Φ (.dat (.int n)) M) : Xp K (tCB (fun xs H Q => ∃ p ys, xs = [.ref p] ∧ (SqL K H p ys ∨ SqT K H p ys) ∧ Q (.int ys.length) H) (tCons (tOp (rIx K) (tVar i) (tC (.int 0))) tNil)) ds M Φ := by
  have m0 := hS.m0
  obtain ⟨r, hr, hl⟩ := hS.at (i := 0) (by omega)
  refine xp_cb (xa_cons (xp_op (xp_var hv (xp_int (xo_ixL (d := rowD r) (at_nat (j := 0) (map_at hr)) (xa_nil (xc_len (.dat _) ?_)))))))
  rw [List.length_map, hl]
  exact k
theorem xp_tall {ds : DS} {M : MH} {Φ : Ds → MH → Prop} {i : Nat} {S : Tab} {m n : Nat} (hS : Rect S m n) (hv : ds[i]? = some (some (.dat (tabD S)))) (k : Φ (.dat (.int m)) M) : Xp K (tCB (fun xs H Q => ∃ p ys, xs = [.ref p] ∧ (SqL K H p ys ∨ SqT K H p ys) ∧ Q (.int ys.length) H) (tCons (tVar i) tNil)) ds M Φ := by
  refine xp_cb (xa_cons (xp_var hv (xa_nil (xc_len (.dat _) ?_))))
  rw [List.length_map, hS.len]
  exact k
theorem pm_mul {i j : Int} (h : i = 1 ∨ i = -1) : CMul i j := .inl (by rcases h with rfl | rfl <;> decide)
theorem abs_most {i : Int} : (1 < (if i < 0 then -i else i)) ↔ ¬ (-1 ≤ i ∧ i ≤ 1) := by split <;> omega
def p_are_right : SpP := fun xs M Φ => ∃ (S : Tab) (m n : Nat) (p : List Nat) (ss : List Int), Rect S m n ∧ (∀ x ∈ p, x < m) ∧ p.length ≤ 5 ∧ ss.length = p.length ∧ PM ss ∧ xs = [.dat (tabD S), .dat (pD p), .dat (rowD ss)] ∧ Φ (.dat (.bool (decide (Right S n p ss)))) M
theorem ok_are_right (T : Txt w K mg) : FnOk P w K mg base CX0 1 T.d_are_right.f T.d_are_right.fd ["table", "rows", "signs"] (spE K p_are_right) := by
  refine fn_ok T.d_are_right.F sc_are_right (fun xs M Φ ⟨_, _, _, _, _, _, _, _, _, _, h, _⟩ => by rw [h]; rfl) fun cdv A outer s H E hr => ?_
  have nd := sc_are_right.nd
  refine ⟨_, (pss_cons (ps_for PassesOwn.never rfl (pi_range1 (by rfl) T.z_range (pa_cons (pe_callB (k_len (K := K) rfl) (by rfl) T.z_len (by decide +kernel) (pa_cons (pe_ix (k_ix (K := K) rfl) (pv 0) pe_int (fun _ _ => rfl)) pa_nil)) pa_nil)) (pg_name (i := 3) nd rfl (Or.inr rfl)) (pss_one (ps_if (pt_cmpR op_gt (pe_callB call_abs (by rfl) T.z_abs (by decide +kernel) (pa_cons (pe_callB (k_sum (K := K) rfl rfl) (by rfl) T.z_sum (by decide +kernel) (pa_cons (pe_lc (own := [("row", 4), ("sign", 5)]) rfl nd (kiZ (K := K) rfl (pi_zip (by rfl) T.z_zip (pa_cons (pv 1) (pa_cons (pv 2) pa_nil)))) (blkOk_by (by kernel_rfl)) (fun _ _ _ _ _ => (kgT (K := K) rfl (pg_tup (n := 2) rfl (pgs_cons (pg_name (i := 4) nd rfl (Or.inl rfl)) (pgs_cons (pg_name (i := 5) nd rfl (Or.inl rfl)) pgs_nil))))) (fun _ _ _ _ _ => pts_nil) (fun _ _ _ _ _ => (pe_op op_mul (pv 5) (pe_ix (k_ix (K := K) rfl) (pe_ix (k_ix (K := K) rfl) (pv 0) (pv 4) (fun _ _ => rfl)) (pv 3) (fun _ _ => rfl))))) pa_nil)) pa_nil)) pe_int (nomark _)) (pss_one (ps_ret pe_bl)) pss_nil)))
      (pss_one (ps_ret pe_bl))), ?_⟩
  rintro xs M Φ ⟨S, m, n, p, ss, hS, hp, hp5, hl, hpm, rfl, k⟩
  have m5 := hS.m5
  have n5 := hS.n5
  refine xs_seq (xs_forD (l := List.range n) [3] (fun i ds' M' => ∃ x y z, M' = M ∧ ds' = [some (.dat (tabD S)), some (.dat (pD p)), some (.dat (rowD ss)), x, y, z] ∧ ∀ c, c < i → -1 ≤ colSum S p ss c ∧ colSum S p ss c ≤ 1)
    (by rw [← rngD0]; exact xd_rng1 (n := n) (by omega) (xa_cons (xp_wide hS rfl (xa_nil ⟨rfl, rfl⟩)))) ⟨_, _, _, rfl, rfl, fun c hc => absurd hc (Nat.not_lt_zero _)⟩ ?_ ?_)
  · rintro i d ds' M' hd ⟨x, y, z, rfl, rfl, ok⟩
    obtain ⟨hi, rfl⟩ := range_at hd
    refine xg_name (by decide) (xs_if (xt_tst (xp_op (xp_cb (xa_cons (xp_cb (xa_cons ?_)))))))
    refine xp_mapD (l := p.zip ss) (enc := fun q => .tuple [.int q.1, .int q.2]) (fun q => .int (q.2 * ent S q.1 i)) ?_ ?_ ?_ ?_
    · rw [← zipD_map (fun k : Nat => PyData.int k) PyData.int]
      exact xd_zip (by rw [List.length_map, List.length_map, hl]) (xa_cons (xp_var (by rw [← pD_eq]; rfl) (xa_cons (xp_var rfl (xa_nil ⟨rfl, rfl⟩)))))
    · rw [List.length_zip, hl]; omega
    · rintro j ⟨a, b⟩ hj
      refine xg_tup rfl (xgs_cons (xg_name (by decide) (xgs_cons (xg_name (by decide) (xgs_nil ⟨rfl, ?_⟩)))))
      refine xp_op (xp_var rfl ?_)
      refine xp_cell hS (hp a (List.of_mem_zip (List.mem_of_getElem? hj)).1) hi ?_
      refine xp_var rfl ⟨rfl, xp_var rfl ⟨rfl, xp_var rfl ⟨rfl, xo_iC (pm_mul (hpm b (List.of_mem_zip (List.mem_of_getElem? hj)).2)) ?_⟩⟩⟩
      exact ⟨rfl, rfl⟩
    · refine xa_nil ?_
      have e : (p.zip ss).map (fun q => PyData.int (q.2 * ent S q.1 i)) = nums (List.zipWith (fun r s => s * ent S r i) p ss) := by
        rw [nums, List.map_zipWith, List.zip, List.map_zipWith]
      rw [e]
      refine xc_sum (xa_nil (xc_abs (xp_int (xo_b0 ⟨_, rfl, ?_⟩))))
      show (decide ((1 : Int) < (if colSum S p ss i < 0 then -colSum S p ss i else colSum S p ss i)) = true → _) ∧ (decide ((1 : Int) < (if colSum S p ss i < 0 then -colSum S p ss i else colSum S p ss i)) = false → _)
      by_cases hc : -1 ≤ colSum S p ss i ∧ colSum S p ss i ≤ 1
      · refine no (decide_eq_false fun h => abs_most.mp h hc) (xs_nil ⟨_, _, _, rfl, rfl, fun c h => ?_⟩)
        rcases Nat.lt_or_eq_of_le (Nat.le_of_lt_succ h) with h | rfl
        · exact ok c h
        · exact hc
      · refine yes (decide_eq_true (abs_most.mpr hc)) (xs_ret (xp_bl ?_))
        rw [show decide (Right S n p ss) = false from decide_eq_false fun h => hc (h i hi)] at k
        exact k
  · rintro ds' M' ⟨x, y, z, rfl, rfl, ok⟩
    rw [List.length_range] at ok
    rw [show decide (Right S n p ss) = true from decide_eq_true ok] at k
    exact xs_ret (xp_bl k)
end
end K62
end
section
set_option Elab.async false
set_option linter.all false
set_option maxRecDepth 100000
set_option maxHeartbeats 4000000
set_option autoImplicit false
namespace K62
open PySem L2
local macro_rules | `(tactic| walk_at "x") => `(tactic| first
  | with_reducible refine xs_seq ?_ | with_reducible refine xs_ret ?_ | with_reducible refine xs_set ?_ | with_reducible refine xs_if ?_ | with_reducible refine xs_drop ?_ | with_reducible refine xs_nil ?_ | with_reducible refine xs_for ?_
  | ((with_reducible refine' xp_var ?hv ?_); (case hv => rfl)) | with_reducible refine xp_int ?_ | with_reducible refine xp_bl ?_ | with_reducible refine xp_non ?_ | with_reducible refine xp_str ?_ | with_reducible refine xp_ty ?_
  | with_reducible refine xp_op ?_ | with_reducible refine xp_un ?_ | with_reducible refine xp_cb ?_ | with_reducible refine xp_call ?_ | with_reducible refine xp_andV ?_ | with_reducible refine xp_notV ?_ | with_reducible refine xp_if ?_ | with_reducible refine xp_chain ?_
  | with_reducible refine xp_lc ?_ | with_reducible refine xp_lc2 ?_
  | with_reducible refine xa_cons ?_ | with_reducible refine xa_nil ?_
  | with_reducible refine xt_tst ?_ | with_reducible refine xt_B ?_ | with_reducible refine xt_and ?_ | with_reducible refine xt_or ?_ | with_reducible refine xt_not ?_ | with_reducible refine xt_yes ?_
  | with_reducible refine xi_rng1 ?_ | with_reducible refine xi_rng2 ?_)
section
variable {P : Program} {w : World} {K : PySem.W.Frag} {mg : Str → Option Value} {base : Heap}
theorem rowD_snoc (r : List Int) (s : Int) : rowD (r ++ [s]) = .list (nums r ++ [.int s]) := by rw [rowD, nums, nums, List.map_append]; rfl
/-- right signs that go on from ss -/
def Goes (S : Tab) (n : Nat) (p : List Nat) (ss : List Int) : Prop := ∃ ts : List Int, ss.length + ts.length = p.length ∧ PM ts ∧ Right S n p (ss ++ ts)
def optD : Option (List Int) → Ds
  | none => .dat .none
  | some ss => .dat (rowD ss)
theorem Goes.more {S : Tab} {n : Nat} {p : List Nat} {ss : List Int} (h : ss.length < p.length) : Goes S n p ss ↔ Goes S n p (ss ++ [1]) ∨ Goes S n p (ss ++ [-1]) := by
  constructor
  · rintro ⟨ts, hl, hp, hr⟩
    cases ts with
    | nil => simp at hl; omega
    | cons t ts =>
      have e : ss ++ t :: ts = ss ++ [t] ++ ts := by simp
      rw [e] at hr
      have hl' : (ss ++ [t]).length + ts.length = p.length := by simp at hl ⊢; omega
      have hp' : PM ts := fun s hs => hp s (List.mem_cons_of_mem _ hs)
      rcases hp t (List.mem_cons_self ..) with rfl | rfl
      · exact .inl ⟨ts, hl', hp', hr⟩
      · exact .inr ⟨ts, hl', hp', hr⟩
  · have go : ∀ t : Int, (t = 1 ∨ t = -1) → Goes S n p (ss ++ [t]) → Goes S n p ss := fun t ht ⟨ts, hl, hp, hr⟩ => by
      refine ⟨t :: ts, by simp at hl ⊢; omega, fun s hs => ?_, by rw [show ss ++ t :: ts = ss ++ [t] ++ ts by simp]; exact hr⟩
      rcases List.mem_cons.mp hs with rfl | hs
      · exact ht
      · exact hp s hs
    rintro (h | h)
    · exact go 1 (.inl rfl) h
    · exact go (-1) (.inr rfl) h
theorem Goes.full {S : Tab} {n : Nat} {p : List Nat} {ss : List Int} (h : ss.length = p.length) : Goes S n p ss ↔ Right S n p ss := by
  constructor
  · rintro ⟨ts, hl, _, hr⟩
    obtain rfl : ts = [] := List.eq_nil_of_length_eq_zero (by omega)
    rwa [List.append_nil] at hr
  · exact fun hr => ⟨[], by simpa using h, fun s hs => (by cases hs), by rwa [List.append_nil]⟩
theorem Goes.has {S : Tab} {n : Nat} {p : List Nat} : Goes S n p [] ↔ Has S n p := by
  constructor
  · exact fun ⟨ts, hl, hp, hr⟩ => ⟨ts, by simpa using hl, hp, hr⟩
  · exact fun ⟨ts, hl, hp, hr⟩ => ⟨ts, by simpa using hl, hp, hr⟩
def p_sought : Nat → SpP
  | 0 => fun _ _ _ => False
  | k + 1 => fun xs M Φ => ∃ (S : Tab) (m n : Nat) (p : List Nat) (ss : List Int), Rect S m n ∧ (∀ x ∈ p, x < m) ∧ p.length ≤ 5 ∧ ss.length ≤ p.length ∧ p.length ≤ ss.length + k ∧ PM ss ∧ xs = [.dat (tabD S), .dat (pD p), .dat (rowD ss)] ∧ ∀ o, (o.isSome = true ↔ Goes S n p ss) → Φ (optD o) M
theorem eqv_nat (i j : Nat) : PyData.eqv (.int (i : Nat)) (.int (j : Nat)) = decide (i = j) := by
  rw [eqv_int]
  exact decide_eq_decide.mpr (by omega)
theorem ok_sought : ∀ (k : Nat) (T : Txt w K mg), FnOk P w K mg base CX0 (k + 2) T.d_sought.f T.d_sought.fd ["table", "rows", "signs"] (spE K (p_sought k))
  | 0, T => fn_none
  | k + 1, T => by
    have ih := ok_sought k T
    refine fn_ok T.d_sought.F sc_sought (fun xs M Φ ⟨_, _, _, _, _, _, _, _, _, _, _, h, _⟩ => by rw [h]; rfl) fun cdv A outer s H E hr => ?_
    have nd := sc_sought.nd
    have ok_sought := fun (_ : Txt w K mg) => ih
    refine ⟨_, (pss_cons (ps_if (pt_cmpR (k_eq (K := K) rfl (u64 hr)) (pe_callB (k_len (K := K) rfl) (by rfl) T.z_len (by decide +kernel) (pa_cons (pv 2) pa_nil)) (pe_callB (k_len (K := K) rfl) (by rfl) T.z_len (by decide +kernel) (pa_cons (pv 1) pa_nil)) (nomark _)) (pss_one (ps_ret (pe_ifExp (pt_val (pe_call (ok_are_right T) (hr.mono (by first | decide | omega)) rfl T.d_are_right.m T.d_are_right.F.kp T.d_are_right.b .nil pass0 (pa_cons (pv 0) (pa_cons (pv 1) (pa_cons (pv 2) pa_nil))))) (pv 2) pe_non))) pss_nil)
      (pss_cons (ps_for PassesOwn.never rfl (kiT (K := K) rfl (pi_tup (pe_tup (pa_cons pe_int (pa_cons (pe_un un_neg pe_int) pa_nil))))) (pg_name (i := 3) nd rfl (Or.inl rfl)) (pss_cons (ps_set (i := 4) nd rfl (Or.inl rfl) (pe_call (ok_sought T) (hr.mono (by first | decide | omega)) rfl T.d_sought.m T.d_sought.F.kp T.d_sought.b .nil pass0 (pa_cons (pv 0) (pa_cons (pv 1) (pa_cons (pe_op op_cat (pv 2) (pe_lst (pa_cons (pv 3) pa_nil))) pa_nil)))))
      (pss_one (ps_if (pt_cmpR op_notN (pv 4) pe_non (nomark _)) (pss_one (ps_ret (pv 4))) pss_nil))))
      (pss_one (ps_ret pe_non)))), ?_⟩
    rintro xs M Φ ⟨S, m, n, p, ss, hS, hp, hp5, hl, hk, hpm, rfl, fin⟩
    refine xs_seq (xs_if (xt_tst (xp_op (xp_cb (xa_cons (xp_var rfl (xa_nil (xc_len (.dat _) (xp_cb (xa_cons (xp_var rfl (xa_nil (xc_len (.dat _) (xo_eqD (.dat _) (.dat _) (shD.int _ _) (shD.int _ _) ⟨_, rfl, ?_⟩))))))))))))))
    simp only [List.length_map, eqv_nat]
    by_cases h : ss.length = p.length
    · refine yes (decide_eq_true h) (xs_ret (xp_if (xt_tst (xp_call (xa_cons (xp_var rfl (xa_cons (xp_var rfl (xa_cons (xp_var rfl (xa_nil ⟨S, m, n, p, ss, hS, hp, hp5, h, hpm, rfl, _, rfl, ?_⟩)))))))))))
      by_cases hr : Right S n p ss
      · exact yes (decide_eq_true hr) (xp_var rfl (fin (some ss) ⟨fun _ => (Goes.full h).mpr hr, fun _ => rfl⟩))
      · exact no (decide_eq_false hr) (xp_non (fin none ⟨fun z => (by cases z), fun g => absurd ((Goes.full h).mp g) hr⟩))
    · refine no (decide_eq_false h) (xs_nil ?_)
      refine xs_seq (xs_forD (l := [(1 : Int), -1]) (enc := PyData.int) [3] (fun i ds' M' => ∃ x y, M' = M ∧ ds' = [some (.dat (tabD S)), some (.dat (pD p)), some (.dat (rowD ss)), x, y] ∧ ∀ s ∈ ([(1 : Int), -1]).take i, ¬ Goes S n p (ss ++ [s]))
        (xd_tup (xp_tup (xa_cons (xp_int (xa_cons (xp_un (xp_int (xu_neg (xa_nil ⟨[.int 1, .int (-1)], rfl, by decide, rfl, rfl⟩))))))))) ⟨_, _, rfl, rfl, fun s hs => (by cases hs)⟩ ?_ ?_)
      · rintro i s ds' M' hs ⟨x, y, rfl, rfl, bad⟩
        have hs1 : s = 1 ∨ s = -1 := by
          have := List.mem_of_getElem? hs
          simpa using this
        refine xg_name (by decide) (xs_seq (xs_set (xp_call (xa_cons (xp_var rfl (xa_cons (xp_var rfl (xa_cons (xp_op (xp_var rfl (xp_lst (xa_cons (xp_var rfl (xa_nil ⟨[.int s], rfl, len1, xo_cat ?_ (xa_nil ?_)⟩))))))))))))))
        · rw [List.length_map]; show ss.length + 1 ≤ 100000; omega
        · cases k with
          | zero => omega
          | succ k =>
            refine ⟨S, m, n, p, ss ++ [s], hS, hp, hp5, by simp; omega, by simp; omega, fun z hz => ?_, by rw [rowD_snoc], fun o ho => ?_⟩
            · rcases List.mem_append.mp hz with hz | hz
              · exact hpm z hz
              · obtain rfl := List.mem_singleton.mp hz; exact hs1
            · refine xs_if (xt_tst (xp_op (xp_var rfl (xp_non ?_))))
              cases o with
              | none =>
                refine xo_notN false (by simp) ⟨_, rfl, no rfl (xs_nil ⟨_, _, rfl, rfl, fun t ht => ?_⟩)⟩
                rw [List.take_add_one, hs] at ht
                rcases List.mem_append.mp ht with ht | ht
                · exact bad t ht
                · obtain rfl : t = s := by simpa using ht
                  exact fun g => (by cases ho.mpr g)
              | some ts =>
                refine xo_notN true (by simp) ⟨_, rfl, yes rfl (xs_ret (xp_var rfl (fin (some ts) ⟨fun _ => (Goes.more (by omega)).mpr ?_, fun _ => rfl⟩)))⟩
                have g := ho.mp rfl
                rcases hs1 with rfl | rfl
                · exact .inl g
                · exact .inr g
      · rintro ds' M' ⟨x, y, rfl, rfl, bad⟩
        refine xs_ret (xp_non (fin none ⟨fun z => (by cases z), fun g => ?_⟩))
        rcases (Goes.more (by omega)).mp g with g | g
        · exact (bad 1 (by simp) g).elim
        · exact (bad (-1) (by simp) g).elim
theorem rise_len {many : Nat} {p : List Nat} (h : Rise many p) : p.length ≤ many := by
  have := nodup_le (r := List.range many) (h.lt.imp fun h => Nat.ne_of_lt h) fun x hx => List.mem_range.mpr (h.le x hx)
  rwa [List.length_range] at this
theorem rngD1 (n : Nat) : rngD 1 n = (List.range n).map fun i => .int ((i + 1 : Nat) : Int) := by
  unfold rngD
  exact List.map_congr_left fun i _ => by rw [Int.add_comm]; rfl
theorem xd_up1 {ds : DS} {M : MH} {ar : TA} {n : Nat} (hn : n ≤ 50000) (h : Xa K ar ds M fun xs M1 => xs = [.dat (.int 1), .dat (.int ((n : Int) + 1))] ∧ M1 = M) : XiD K (iRng2 ar) ds M ((List.range n).map fun i => .int ((i + 1 : Nat) : Int)) := by
  rw [← rngD1]
  have e : n = ((n : Int) + 1 - 1).toNat := by omega
  conv => arg 5; rw [e]
  exact xd_rng2 (by omega) (by omega) (by omega) (by omega) h
theorem allPicks_few : ∀ many, many < 10 → (allPicksN many).length ≤ 511 := by decide +kernel
def p_all_picks : SpP := fun xs M Φ => ∃ many : Nat, many < 9 ∧ xs = [.dat (.int many)] ∧ Φ (.dat (.list ((allPicksN many).map pD))) M
theorem ok_all_picks (T : Txt w K mg) : FnOk P w K mg base CX0 2 T.d_all_picks.f T.d_all_picks.fd ["many"] (spE K p_all_picks) := by
  refine fn_ok T.d_all_picks.F sc_all_picks (fun xs M Φ ⟨_, _, h, _⟩ => by rw [h]; rfl) fun cdv A outer s H E hr => ?_
  have nd := sc_all_picks.nd
  refine ⟨_, (pss_one (ps_ret (pe_lc2 (own := [("size", 1), ("rows", 2)]) (vs1 := [2]) rfl nd (pi_range2 (by rfl) T.z_range (pa_cons pe_int (pa_cons (pe_op op_add (pv 0) pe_int) pa_nil))) (blkOk_by (by kernel_rfl)) (by decide) (fun _ _ _ _ _ => (pg_name (i := 1) nd rfl (Or.inl rfl))) (fun _ _ _ _ _ => pts_nil) (fun _ _ _ _ _ => (kiL (K := K) rfl (pi_list (pe_call (ok_picks T) (hr.mono (by first | decide | omega)) rfl T.d_picks.m T.d_picks.F.kp T.d_picks.b .nil pass0 (pa_cons (pv 0) (pa_cons (pv 1) pa_nil)))))) (fun _ _ _ _ _ => (pg_name (i := 2) nd rfl (Or.inl rfl))) (fun _ _ _ _ _ => pts_nil) (fun _ _ _ _ _ => (pv 2))))), ?_⟩
  rintro xs M Φ ⟨many, hm, rfl, k⟩
  have e : ((List.range many).flatMap fun i => (picksN many (i + 1)).map pD) = (allPicksN many).map pD := by
    unfold allPicksN; rw [List.map_flatMap]
  refine xs_ret ?_
  refine xp_lc2D (l := List.range many) (fun i => picksN many (i + 1)) pD (fun _ p => pD p) ?_ ?_ ?_ ?_ (enc := fun i => .int ((i + 1 : Nat) : Int))
  · exact xd_up1 (by omega) <| xa_cons <| xp_int <| xa_cons <| xp_op <| xp_var rfl <| xp_int <| xo_i0 <| xa_nil ⟨rfl, rfl⟩
  · intro i a ha
    obtain ⟨hi, rfl⟩ := range_at ha
    refine xg_name (by decide) ⟨rfl, ?_, fun j p hp => xg_name (by decide) ⟨rfl, xp_var rfl ⟨rfl, rfl⟩⟩⟩
    exact xd_list <| xp_call <| xa_cons <| xp_var rfl <| xa_cons <| xp_var rfl <| xa_nil ⟨many, i + 1, by omega, by omega, rfl, rfl, rfl⟩
  · rw [e, List.length_map]
    exact Nat.lt_of_le_of_lt (allPicks_few many (by omega)) (by decide)
  · rw [e]; exact k
def p_uni : SpP := fun xs M Φ => ∃ (S : Tab) (m n : Nat), Rect S m n ∧ xs = [.dat (tabD S)] ∧ ∀ d, (d = .none ↔ Uni S m n) → Φ (.dat d) M
theorem ok_first_bare (T : Txt w K mg) : FnOk P w K mg base CX0 9 T.d_first_bare.f T.d_first_bare.fd ["table"] (spE K p_uni) := by
  refine fn_ok T.d_first_bare.F sc_first_bare (fun xs M Φ ⟨_, _, _, _, h, _⟩ => by rw [h]; rfl) fun cdv A outer s H E hr => ?_
  have nd := sc_first_bare.nd
  have ok_sought := fun T => ok_sought (P := P) (w := w) (K := K) (mg := mg) (base := base) 6 T
  refine ⟨_, (pss_cons (ps_for PassesOwn.never rfl (kiL (K := K) rfl (pi_list (pe_call (ok_all_picks T) (hr.mono (by first | decide | omega)) rfl T.d_all_picks.m T.d_all_picks.F.kp T.d_all_picks.b .nil pass0 (pa_cons (pe_callB (k_len (K := K) rfl) (by rfl) T.z_len (by decide +kernel) (pa_cons (pv 0) pa_nil)) pa_nil)))) (pg_name (i := 1) nd rfl (Or.inl rfl)) (pss_one (ps_if (pt_cmpR op_isN (pe_call (ok_sought T) (hr.mono (by first | decide | omega)) rfl T.d_sought.m T.d_sought.F.kp T.d_sought.b .nil pass0 (pa_cons (pv 0) (pa_cons (pv 1) (pa_cons (pe_lst pa_nil) pa_nil)))) pe_non (nomark _)) (pss_one (ps_ret (pv 1))) pss_nil)))
      (pss_one (ps_ret pe_non))), ?_⟩
  rintro xs M Φ ⟨S, m, n, hS, rfl, k⟩
  have m5 := hS.m5
  refine xs_seq (xs_forD (l := allPicksN m) (enc := pD) [1] (fun i ds' M' => ∃ x, M' = M ∧ ds' = [some (.dat (tabD S)), x] ∧ ∀ p ∈ (allPicksN m).take i, Has S n p) ?_ ⟨_, rfl, rfl, fun p hp => (by rw [List.take_zero] at hp; cases hp)⟩ ?_ ?_)
  · exact xd_list <| xp_call <| xa_cons <| xp_tall hS rfl <| xa_nil ⟨m, by omega, rfl, rfl, rfl⟩
  · rintro i p ds' M' hp ⟨x, rfl, rfl, ok⟩
    have hr := mem_allPicksN.mp (List.mem_of_getElem? hp)
    have hl : p.length ≤ 5 := Nat.le_trans (rise_len hr.2) m5
    refine xg_name (by decide) <| xs_if <| xt_tst <| xp_op <| xp_call <| xa_cons <| xp_var rfl <| xa_cons <| xp_var rfl <| xa_cons <| xp_lst <| xa_nil ⟨[], rfl, by decide, xa_nil ⟨S, m, n, p, [], hS, hr.2.le, hl, Nat.zero_le _, ?_, fun s hs => (by cases hs), rfl, fun o ho => ?_⟩⟩
    · simp; omega
    · rw [Goes.has] at ho
      cases o with
      | none => exact xp_non <| xo_isN true (by simp) ⟨_, rfl, yes rfl <| xs_ret <| xp_var rfl <| k _ ⟨fun z => (by cases z), fun u => (by cases ho.mpr (u p (List.mem_of_getElem? hp)))⟩⟩
      | some ss =>
        refine xp_non <| xo_isN false (by simp) ⟨_, rfl, no rfl <| xs_nil ⟨_, rfl, rfl, fun q hq => ?_⟩⟩
        rw [List.take_add_one, hp] at hq
        rcases List.mem_append.mp hq with hq | hq
        · exact ok q hq
        · obtain rfl : q = p := by simpa using hq
          exact ho.mp rfl
  · rintro ds' M' ⟨x, rfl, rfl, ok⟩
    rw [List.take_length] at ok
    exact xs_ret <| xp_non <| k _ ⟨fun _ => ok, fun _ => rfl⟩
def p_is_uni : SpP := fun xs M Φ => ∃ (S : Tab) (m n : Nat), Rect S m n ∧ xs = [.dat (tabD S)] ∧ ∀ b, (b = true ↔ Uni S m n) → Φ (.dat (.bool b)) M
theorem ok_is_unimodular (T : Txt w K mg) : FnOk P w K mg base CX0 10 T.d_is_unimodular.f T.d_is_unimodular.fd ["table"] (spE K p_is_uni) := by
  refine fn_ok T.d_is_unimodular.F sc_is_unimodular (fun xs M Φ ⟨_, _, _, _, h, _⟩ => by rw [h]; rfl) fun cdv A outer s H E hr => ?_
  have nd := sc_is_unimodular.nd
  refine ⟨_, (pss_cons (ps_expr (pe_call (ok_check_table T) (hr.mono (by first | decide | omega)) rfl T.d_check_table.m T.d_check_table.F.kp T.d_check_table.b .nil pass0 (pa_cons (pv 0) pa_nil)))
      (pss_one (ps_ret (pe_cmpR op_isN (pe_call (ok_first_bare T) (hr.mono (by first | decide | omega)) rfl T.d_first_bare.m T.d_first_bare.F.kp T.d_first_bare.b .nil pass0 (pa_cons (pv 0) pa_nil)) pe_non (nomark _))))), ?_⟩
  rintro xs M Φ ⟨S, m, n, hS, rfl, k⟩
  refine xs_seq <| xs_drop <| xp_call <| xa_cons <| xp_var rfl <| xa_nil ⟨S, m, n, hS, rfl, ?_⟩
  refine xs_ret <| xp_op <| xp_call <| xa_cons <| xp_var rfl <| xa_nil ⟨S, m, n, hS, rfl, fun d hd => xp_non ?_⟩
  by_cases h : d = .none
  · exact xo_isN true (by simp [h]) <| k true (by simp [← hd, h])
  · exact xo_isN false (by simp [h]) <| k false (by simp [← hd, h])
end
end K62
end
section
set_option Elab.async false
set_option linter.all false
set_option maxRecDepth 100000
set_option maxHeartbeats 4000000
set_option autoImplicit false
namespace K62
open PySem L2
local macro_rules | `(tactic| walk_at "x") => `(tactic| first
  | with_reducible refine xs_seq ?_ | with_reducible refine xs_ret ?_ | with_reducible refine xs_set ?_ | with_reducible refine xs_if ?_ | with_reducible refine xs_drop ?_ | with_reducible refine xs_nil ?_ | with_reducible refine xs_for ?_
  | ((with_reducible refine' xp_var ?hv ?_); (case hv => rfl)) | with_reducible refine xp_int ?_ | with_reducible refine xp_bl ?_ | with_reducible refine xp_non ?_ | with_reducible refine xp_str ?_ | with_reducible refine xp_ty ?_
  | with_reducible refine xp_op ?_ | with_reducible refine xp_un ?_ | with_reducible refine xp_cb ?_ | with_reducible refine xp_call ?_ | with_reducible refine xp_andV ?_ | with_reducible refine xp_notV ?_ | with_reducible refine xp_if ?_ | with_reducible refine xp_chain ?_
  | with_reducible refine xp_lc ?_ | with_reducible refine xp_lc2 ?_
  | with_reducible refine xa_cons ?_ | with_reducible refine xa_nil ?_
  | with_reducible refine xt_tst ?_ | with_reducible refine xt_B ?_ | with_reducible refine xt_and ?_ | with_reducible refine xt_or ?_ | with_reducible refine xt_not ?_ | with_reducible refine xt_yes ?_
  | with_reducible refine xi_rng1 ?_ | with_reducible refine xi_rng2 ?_)
theorem DaAll.rep1 {G : Hp} {v : V} {d : PyData} (h : Da G v d) : ∀ n : Nat, DaAll G (List.replicate n [v]).flatten (List.replicate n d)
  | 0 => .nil
  | n + 1 => .cons h (DaAll.rep1 h n)
section
variable {P : Program} {w : World} {K : PySem.W.Frag} {mg : Str → Option Value} {base : Heap}
theorem xo_rep {M : MH} {Φ : Ds → MH → Prop} {d : PyData} {n : Nat} (hn : n ≤ 100000) (k : Φ (.dat (.list (List.replicate n d))) M) : Xo K rRep (.dat (.list [d])) (.dat (.int n)) M Φ := fun G H u w I d1 d2 Q q => by
  cases d1 with
  | lst ha hd =>
    cases d2
    cases hd with
    | cons h0 hn0 =>
      cases hn0
      rename_i u'
      refine ⟨_, _, _, rfl, rfl, I.ex _ _ ha, by omega, by omega, sz_ok (by simpa using hn), fun p hp => ?_⟩
      have s := Stp.newD I (o := .lst (List.replicate (n : Int).toNat [u']).flatten) hp
      exact q _ (.dat (.list (List.replicate n d))) M _ _ s (Da.lst upd_same (DaAll.mono s.gg (DaAll.rep1 h0 n))) k
theorem natI_map (f : Nat → Nat) (p : List Nat) : natI (p.map f) = p.map fun x => ((f x : Nat) : Int) := by rw [natI, List.map_map]; rfl
theorem lawPicks_in {many s : Nat} (hm : many < 6) (hs : s < 6) : (lawPicksN many s).length ≤ 10 ∧ ∀ p ∈ lawPicksN many s, p.length = s := by
  rw [lawPicks_eq many hm s hs]
  refine ⟨?_, fun p hp => ((mem_picksN s p).mp hp).1⟩
  have : ∀ many, many < 6 → ∀ s, s < 6 → (picksN many s).length ≤ 10 := by decide +kernel
  exact this many hm s hs
theorem flat_part {α β : Type} (f : α → List β) (l : List α) (i : Nat) : ((l.take i).flatMap f).length ≤ (l.flatMap f).length := by
  conv => rhs; rw [← List.take_append_drop i l, List.flatMap_append, List.length_append]
  omega
theorem flat_next {α β : Type} {f : α → List β} {l : List α} {i : Nat} {a : α} (h : l[i]? = some a) : (l.take (i + 1)).flatMap f = (l.take i).flatMap f ++ f a := by
  rw [List.take_add_one, h, List.flatMap_append]; simp
def p_lpicks : Nat → SpP
  | 0 => fun _ _ _ => False
  | k + 1 => fun xs M Φ => ∃ many size : Nat, many < 6 ∧ size < 6 ∧ size ≤ k ∧ xs = [.dat (.int many), .dat (.int size)] ∧ Φ (.dat (.list ((lawPicksN many size).map pD))) M
theorem ok_law_picks : ∀ (k : Nat) (T : Txt w K mg), FnOk P w K mg base CX0 (k + 1) T.d_law_picks.f T.d_law_picks.fd ["_law_many", "_law_size"] (spE K (p_lpicks k))
  | 0, T => fn_none
  | k + 1, T => by
    have ih := ok_law_picks k T
    refine fn_ok T.d_law_picks.F sc_law_picks (fun xs M Φ ⟨_, _, _, _, _, h, _⟩ => by rw [h]; rfl) fun cdv A outer s H E hr => ?_
    have nd := sc_law_picks.nd
    have ok_law_picks := fun (_ : Txt w K mg) => ih
    refine ⟨_, (pss_cons (ps_if (pt_cmpR (k_eq (K := K) rfl (u64 hr)) (pv 1) pe_int (nomark _)) (pss_one (ps_ret (pe_lst (pa_cons (pe_lst pa_nil) pa_nil)))) pss_nil)
      (pss_cons (ps_set (i := 2) nd rfl (Or.inl rfl) (pe_lst pa_nil))
      (pss_cons (ps_for PassesOwn.never rfl (pi_range1 (by rfl) T.z_range (pa_cons (pv 0) pa_nil)) (pg_name (i := 3) nd rfl (Or.inr rfl)) (pss_one (ps_set (i := 2) nd rfl (Or.inl rfl) (pe_op op_cat (pv 2) (pe_lc (own := [("_law_rest", 4)]) rfl nd (kiL (K := K) rfl (pi_list (pe_call (ok_law_picks T) (hr.mono (by first | decide | omega)) rfl T.d_law_picks.m T.d_law_picks.F.kp T.d_law_picks.b .nil pass0 (pa_cons (pe_op op_sub (pe_op op_sub (pv 0) (pv 3)) pe_int) (pa_cons (pe_op op_sub (pv 1) pe_int) pa_nil))))) (blkOk_by (by kernel_rfl)) (fun _ _ _ _ _ => (pg_name (i := 4) nd rfl (Or.inl rfl))) (fun _ _ _ _ _ => pts_nil) (fun _ _ _ _ _ => (pe_op op_cat (pe_lst (pa_cons (pv 3) pa_nil)) (pe_lc (own := [("_law_k", 5)]) rfl nd (kiL (K := K) rfl (pi_list (pv 4))) (blkOk_by (by kernel_rfl)) (fun _ _ _ _ _ => (pg_name (i := 5) nd rfl (Or.inl rfl))) (fun _ _ _ _ _ => pts_nil) (fun _ _ _ _ _ => (pe_op op_add (pe_op op_add (pv 3) pe_int) (pv 5)))))))))))
      (pss_one (ps_ret (pv 2)))))), ?_⟩
    rintro xs M Φ ⟨many, size, hm, hs, hk, rfl, fin⟩
    refine xs_seq <| xs_if <| xt_tst <| xp_op <| xp_var rfl <| xp_int <| xo_eqD (.dat _) (.dat _) (shD.int _ _) (shD.int _ _) ⟨_, rfl, ?_⟩
    rw [eqv_int]
    cases size with
    | zero => exact yes (decide_eq_true rfl) <| xs_ret <| xp_lst <| xa_cons <| xp_lst <| xa_nil ⟨[], rfl, by decide, xa_nil ⟨[.list []], rfl, by decide, fin⟩⟩
    | succ size =>
      refine no (decide_eq_false (by omega)) <| xs_nil <| xs_seq <| xs_set <| xp_lst <| xa_nil ⟨[], rfl, by decide, ?_⟩
      have few := (lawPicks_in hm hs).1
      have e0 : (lawPicksN many (size + 1)) = (List.range many).flatMap fun f => (lawPicksN (many - f - 1) size).map fun r => f :: r.map (f + 1 + ·) := rfl
      refine xs_seq (xs_forD (l := List.range many) [3] (fun i ds' M' => ∃ x y z, M' = M ∧ ds' = [some (.dat (.int many)), some (.dat (.int ((size + 1 : Nat) : Int))), some (.dat (.list (((List.range many).take i).flatMap fun f => (lawPicksN (many - f - 1) size).map fun r => pD (f :: r.map (f + 1 + ·))))), x, y, z]) (by rw [← rngD0]; exact xd_rng1 (n := many) (by omega) (xa_cons (xp_var rfl (xa_nil ⟨rfl, rfl⟩)))) ⟨_, _, _, rfl, rfl⟩ ?_ ?_)
      · rintro i f ds' M' hf ⟨x, y, z, rfl, rfl⟩
        obtain ⟨hi, rfl⟩ := range_at hf
        have part := flat_part (fun f => (lawPicksN (many - f - 1) size).map fun r => pD (f :: r.map (f + 1 + ·))) (List.range many) i
        have in1 := lawPicks_in (many := many - i - 1) (s := size) (by omega) (by omega)
        refine xg_name (by decide) <| xs_set <| xp_op <| xp_var rfl ?_
        refine xp_mapD (l := lawPicksN (many - i - 1) size) (enc := pD) (fun r => pD (i :: r.map (i + 1 + ·))) ?_ (by omega) ?_ ?_
        · refine xd_list <| xp_call <| xa_cons <| xp_op <| xp_op <| xp_var rfl <| xp_var rfl <| xo_i0 <| xp_int <| xo_i0 <| xa_cons <| xp_op <| xp_var rfl <| xp_int <| xo_i0 <| xa_nil ?_
          cases k with
          | zero => omega
          | succ k => exact ⟨many - i - 1, size, by omega, by omega, by omega, by rw [show ((many : Int) - i - 1) = ((many - i - 1 : Nat) : Int) by omega, show (((size + 1 : Nat) : Int) - 1) = ((size : Nat) : Int) by omega], rfl, rfl⟩
        · intro j r hj
          have hl := in1.2 r (List.mem_of_getElem? hj)
          refine xg_name (by decide) ⟨rfl, ?_⟩
          refine xp_op <| xp_lst <| xa_cons <| xp_var rfl <| xa_nil ⟨[.int i], rfl, len1, ?_⟩
          refine xp_mapD (l := r) (enc := fun x : Nat => .int x) (fun x => .int ((i + 1 + x : Nat) : Int)) ?_ (by omega) ?_ ?_
          · rw [show (r.map fun x : Nat => PyData.int x) = nums (natI r) by rw [nums, List.map_map]; rfl]
            exact xd_var rfl
          · intro j2 x hx
            exact xg_name (by decide) ⟨rfl, xp_op <| xp_op <| xp_var rfl <| xp_int <| xo_i0 <| xp_var rfl <| xo_i0 ⟨rfl, by congr 2⟩⟩
          · refine xo_cat (by simp; omega) ⟨rfl, ?_⟩
            rw [pD_eq, List.map_cons, List.map_map]; rfl
        · refine xo_cat ?_ ?_
          · rw [e0] at few
            have h2 : ((List.range many).flatMap fun f => (lawPicksN (many - f - 1) size).map fun r => pD (f :: r.map (f + 1 + ·))).length ≤ 10 := by
              refine Nat.le_trans (Nat.le_of_eq ?_) few
              simp [List.length_flatMap]
            have := in1.1
            rw [List.length_map]; omega
          · rw [flat_next hf]; exact ⟨_, _, _, rfl, rfl⟩
      · rintro ds' M' ⟨x, y, z, rfl, rfl⟩
        refine xs_ret (xp_var rfl ?_)
        rw [List.take_length]
        rw [e0, List.map_flatMap] at fin
        simp only [List.map_map] at fin
        exact fin
/-! ### the law's own check -/
theorem Rect.rowAt {S : Tab} {m n : Nat} (h : Rect S m n) {i : Nat} (hi : i < m) : S[i]? = some (rowAt S n i) := by
  obtain ⟨r, hr, hl⟩ := h.at hi
  rw [hr]
  congr 1
  refine List.ext_getElem? fun j => ?_
  unfold K62.rowAt
  rw [List.getElem?_map]
  by_cases hj : j < n
  · obtain ⟨r', hr', hv⟩ := h.cell hi hj
    rw [hr] at hr'
    obtain rfl := Option.some.inj hr'
    rw [hv, List.getElem?_range hj]; rfl
  · rw [List.getElem?_eq_none (by omega), List.getElem?_eq_none (by rw [List.length_range]; omega)]; rfl
theorem rowAt_len (S : Tab) (n i : Nat) : (rowAt S n i).length = n := by unfold rowAt; rw [List.length_map, List.length_range]
theorem sumsN_wide {S : Tab} {n : Nat} {p : List Nat} {v : List Int} (h : v ∈ sumsN S n p) : v.length = n := by
  obtain ⟨ss, _, _, rfl⟩ := (mem_sumsN p.length p rfl v).mp h
  unfold vecN; rw [List.length_map, List.length_range]
/-- [f a b for a, b in zip(v, S[i])] -/
theorem xp_two {ds : DS} {M : MH} {Φ : Ds → MH → Prop} {te tr : TE} {vs : List Nat} {a b : Nat} {S : Tab} {m n i : Nat} {v : List Int} {tv : TE} {f : Int → Int → Int} (hS : Rect S m n) (hi : i < m) (hv : v.length = n) (ha : a ∈ vs) (hb : b ∈ vs)
    (h1 : Xa K (tCons tv (tCons tr tNil)) ds M fun xs M1 => xs = [.dat (rowD v), .dat (rowD (rowAt S n i))] ∧ M1 = M)
    (h : ∀ x y, x ∈ v → Xp K te (((wipeD ds vs).set a (some (.dat (.int x)))).set b (some (.dat (.int y)))) M fun z M5 => M5 = M ∧ z = .dat (.int (f x y))) (k : Φ (.dat (rowD (List.zipWith f v (rowAt S n i)))) M) :
    Xp K (tLc (iZip K (tCons tv (tCons tr tNil))) (gTup K 2 (gCons (gName a) (gCons (gName b) gNil))) tYes te vs) ds M Φ := by
  have n5 := hS.n5
  refine xp_mapD (l := v.zip (rowAt S n i)) (enc := fun q => .tuple [.int q.1, .int q.2]) (fun q => .int (f q.1 q.2)) ?_ (by rw [List.length_zip, hv, rowAt_len]; omega) ?_ ?_
  · rw [← zipD_map PyData.int PyData.int]
    exact xd_zip (by rw [List.length_map, List.length_map, hv, rowAt_len]) h1
  · rintro j ⟨x, y⟩ hj
    exact xg_tup rfl <| xgs_cons <| xg_name ha <| xgs_cons <| xg_name hb <| xgs_nil ⟨rfl, h x y (List.of_mem_zip (List.mem_of_getElem? hj)).1⟩
  · rw [show (v.zip (rowAt S n i)).map (fun q => PyData.int (f q.1 q.2)) = nums (List.zipWith f v (rowAt S n i)) by rw [nums, List.map_zipWith, List.zip, List.map_zipWith]]
    exact k
theorem tabD_beg (S : Tab) (n : Nat) : PyData.list [PyData.list (List.replicate n (PyData.int 0))] = tabD (sumsN S n []) := by
  rw [show sumsN S n [] = [List.replicate n 0] from rfl, tabD, List.map_cons, rowD, nums, List.map_replicate]; rfl
theorem tabD_step (S : Tab) (n : Nat) (q : List Nat) (r : Nat) : PyData.list (((sumsN S n q).map fun v => rowD (List.zipWith (· + ·) v (rowAt S n r))) ++ (sumsN S n q).map fun v => rowD (List.zipWith (· - ·) v (rowAt S n r))) = tabD (sumsN S n (q ++ [r])) := by
  rw [sumsN_snoc, tabD, List.map_append, List.map_map, List.map_map]; rfl
def within (v : List Int) : Bool := v.all fun x => decide (-1 ≤ x) && decide (x ≤ 1)
theorem within_iff {v : List Int} : within v = true ↔ ∀ x ∈ v, -1 ≤ x ∧ x ≤ 1 := by
  unfold within; rw [List.all_eq_true]
  simp
theorem shD_tab (T : Tab) : shD 64 (tabD T) := shD.mono (k := 1 + 1) (shD.list fun d hd => by
  obtain ⟨r, _, rfl⟩ := List.mem_map.mp hd
  exact shD.nums _ _) (by decide)
theorem ok_law_unimodular (T : Txt w K mg) : FnOk P w K mg base CX0 10 T.d_law_unimodular.f T.d_law_unimodular.fd ["_law_table"] (spE K p_is_uni) := by
  refine fn_ok T.d_law_unimodular.F sc_law_unimodular (fun xs M Φ ⟨_, _, _, _, h, _⟩ => by rw [h]; rfl) fun cdv A outer s H E hr => ?_
  have nd := sc_law_unimodular.nd
  have ok_law_picks := fun T => ok_law_picks (P := P) (w := w) (K := K) (mg := mg) (base := base) 7 T
  refine ⟨_, (pss_cons (ps_set (i := 1) nd rfl (Or.inl rfl) (pe_lst (pa_cons (pe_op op_rep (pe_lst (pa_cons pe_int pa_nil)) (pe_callB (k_len (K := K) rfl) (by rfl) T.z_len (by decide +kernel) (pa_cons (pe_ix (k_ix (K := K) rfl) (pv 0) pe_int (fun _ _ => rfl)) pa_nil))) pa_nil)))
      (pss_cons (ps_for PassesOwn.never rfl (pi_range2 (by rfl) T.z_range (pa_cons pe_int (pa_cons (pe_op op_add (pe_callB (k_len (K := K) rfl) (by rfl) T.z_len (by decide +kernel) (pa_cons (pv 0) pa_nil)) pe_int) pa_nil))) (pg_name (i := 2) nd rfl (Or.inl rfl)) (pss_one (ps_for PassesOwn.never rfl (kiL (K := K) rfl (pi_list (pe_call (ok_law_picks T) (hr.mono (by first | decide | omega)) rfl T.d_law_picks.m T.d_law_picks.F.kp T.d_law_picks.b .nil pass0 (pa_cons (pe_callB (k_len (K := K) rfl) (by rfl) T.z_len (by decide +kernel) (pa_cons (pv 0) pa_nil)) (pa_cons (pv 2) pa_nil))))) (pg_name (i := 3) nd rfl (Or.inl rfl)) (pss_cons (ps_set (i := 1) nd rfl (Or.inl rfl) (pe_lst (pa_cons (pe_op op_rep (pe_lst (pa_cons pe_int pa_nil)) (pe_callB (k_len (K := K) rfl) (by rfl) T.z_len (by decide +kernel) (pa_cons (pe_ix (k_ix (K := K) rfl) (pv 0) pe_int (fun _ _ => rfl)) pa_nil))) pa_nil)))
      (pss_cons (ps_for PassesOwn.never rfl (kiL (K := K) rfl (pi_list (pv 3))) (pg_name (i := 4) nd rfl (Or.inr rfl)) (pss_cons (ps_setLc (i := 5) (own := [("_law_one_here", 6)]) rfl nd rfl rfl (sw_true rfl rfl rfl (by decide +kernel)) (kiL (K := K) rfl (pi_list (pv 1))) (blkOk_by (by kernel_rfl)) (fun _ _ _ _ _ => (pg_name (i := 6) nd rfl (Or.inl rfl))) (fun _ _ _ _ _ => pts_nil) (fun _ _ _ _ _ => (pe_lc (own := [("_law_a", 7), ("_law_b", 8)]) rfl nd (kiZ (K := K) rfl (pi_zip (by rfl) T.z_zip (pa_cons (pv 6) (pa_cons (pe_ix (k_ix (K := K) rfl) (pv 0) (pv 4) (fun _ _ => rfl)) pa_nil)))) (blkOk_by (by kernel_rfl)) (fun _ _ _ _ _ => (kgT (K := K) rfl (pg_tup (n := 2) rfl (pgs_cons (pg_name (i := 7) nd rfl (Or.inl rfl)) (pgs_cons (pg_name (i := 8) nd rfl (Or.inl rfl)) pgs_nil))))) (fun _ _ _ _ _ => pts_nil) (fun _ _ _ _ _ => (pe_op op_add (pv 7) (pv 8))))))
      (pss_one (ps_set (i := 1) nd rfl (Or.inl rfl) (pe_op op_cat (pv 5) (pe_lc (own := [("_law_one_here", 6)]) rfl nd (kiL (K := K) rfl (pi_list (pv 1))) (blkOk_by (by kernel_rfl)) (fun _ _ _ _ _ => (pg_name (i := 6) nd rfl (Or.inl rfl))) (fun _ _ _ _ _ => pts_nil) (fun _ _ _ _ _ => (pe_lc (own := [("_law_a", 7), ("_law_b", 8)]) rfl nd (kiZ (K := K) rfl (pi_zip (by rfl) T.z_zip (pa_cons (pv 6) (pa_cons (pe_ix (k_ix (K := K) rfl) (pv 0) (pv 4) (fun _ _ => rfl)) pa_nil)))) (blkOk_by (by kernel_rfl)) (fun _ _ _ _ _ => (kgT (K := K) rfl (pg_tup (n := 2) rfl (pgs_cons (pg_name (i := 7) nd rfl (Or.inl rfl)) (pgs_cons (pg_name (i := 8) nd rfl (Or.inl rfl)) pgs_nil))))) (fun _ _ _ _ _ => pts_nil) (fun _ _ _ _ _ => (pe_op op_sub (pv 7) (pv 8)))))))))))
      (pss_one (ps_if (pt_cmpR (k_eq (K := K) rfl (u64 hr)) (pe_lc (own := [("_law_one_here", 6)]) rfl nd (kiL (K := K) rfl (pi_list (pv 1))) (blkOk_by (by kernel_rfl)) (fun _ _ _ _ _ => (pg_name (i := 6) nd rfl (Or.inl rfl))) (fun _ _ _ _ _ => (pts_one (PW.pt (pw_and (pt_cmpR op_le (pe_callB (k_max (K := K) rfl rfl) (by rfl) T.z_max (by decide +kernel) (pa_cons (pv 6) pa_nil)) pe_int (nomark _)) (pw_and1 (pt_cmpR op_ge (pe_callB (k_min (K := K) rfl rfl) (by rfl) T.z_min (by decide +kernel) (pa_cons (pv 6) pa_nil)) (pe_un un_neg pe_int) (nomark _))))))) (fun _ _ _ _ _ => (pv 6))) (pe_lst pa_nil) (nomark _)) (pss_one (ps_ret pe_bl)) pss_nil)))))))
      (pss_one (ps_ret pe_bl)))), ?_⟩
  rintro xs M Φ ⟨S, m, n, hS, rfl, fin⟩
  have m5 := hS.m5
  have n5 := hS.n5
  refine xs_seq <| xs_set <| xp_lst <| xa_cons <| xp_op <| xp_lst <| xa_cons <| xp_int <| xa_nil ⟨[.int 0], rfl, len1, xp_wide hS rfl <| xo_rep (by omega) <| xa_nil ⟨[_], rfl, len1, ?_⟩⟩
  refine xs_seq (xs_forD (l := List.range m) (enc := fun i => .int ((i + 1 : Nat) : Int)) [2] (fun i ds' M' => ∃ a b c d e f g h, M' = M ∧ ds' = [some (.dat (tabD S)), a, b, c, d, e, f, g, h] ∧ ∀ s, s < i → ∀ p ∈ picksN m (s + 1), Has S n p) ?_ ⟨_, _, _, _, _, _, _, _, rfl, rfl, fun s hs => absurd hs (Nat.not_lt_zero _)⟩ ?_ ?_)
  · exact xd_up1 (by omega) <| xa_cons <| xp_int <| xa_cons <| xp_op <| xp_tall hS rfl <| xp_int <| xo_i0 <| xa_nil ⟨rfl, rfl⟩
  · rintro i q ds' M' hq ⟨a, b, c, d, e, f, g, h, rfl, rfl, ok⟩
    obtain ⟨hi, rfl⟩ := range_at hq
    refine xg_name (by decide) ?_
    refine xs_forD (l := picksN m (i + 1)) (enc := pD) [3] (fun j ds' M2 => ∃ a c d e f g h, M2 = M' ∧ ds' = [some (.dat (tabD S)), a, some (.dat (.int ((i + 1 : Nat) : Int))), c, d, e, f, g, h] ∧ ∀ p ∈ (picksN m (i + 1)).take j, Has S n p) ?_ ⟨_, _, _, _, _, _, _, rfl, rfl, fun p hp => (by rw [List.take_zero] at hp; cases hp)⟩ ?_ ?_
    · rw [← lawPicks_eq m (by omega) (i + 1) (by omega)]
      exact xd_list <| xp_call <| xa_cons <| xp_tall hS rfl <| xa_cons <| xp_var rfl <| xa_nil ⟨m, i + 1, by omega, by omega, (show i + 1 ≤ 6 by omega), rfl, rfl, rfl⟩
    · rintro j p ds' M2 hp ⟨a, c, d, e, f, g, h, rfl, rfl, okp⟩
      have pi := (mem_picksN _ _).mp (List.mem_of_getElem? hp)
      refine xg_name (by decide) <| xs_seq <| xs_set <| xp_lst <| xa_cons <| xp_op <| xp_lst <| xa_cons <| xp_int <| xa_nil ⟨[.int 0], rfl, len1, xp_wide hS rfl <| xo_rep (by omega) <| xa_nil ⟨[_], rfl, len1, ?_⟩⟩
      refine xs_seq (xs_forD (l := p) (enc := fun k : Nat => .int k) [4] (fun k ds' M3 => ∃ d e f g h, M3 = M2 ∧ ds' = [some (.dat (tabD S)), some (.dat (tabD (sumsN S n (p.take k)))), some (.dat (.int ((i + 1 : Nat) : Int))), some (.dat (pD p)), d, e, f, g, h]) ?_ ?_ ?_ ?_)
      · refine xd_var ?_
        rw [← pD_eq]; rfl
      · rw [List.take_zero, tabD_beg]
        exact ⟨_, _, _, _, _, rfl, rfl⟩
      · rintro k r ds' M3 hr ⟨d, e, f, g, h, rfl, rfl⟩
        have hrm := pi.2.le r (List.mem_of_getElem? hr)
        have hk : k < p.length := (List.getElem?_eq_some_iff.mp hr).1
        have hlen := sumsN_len S n k (p.take k) (by rw [List.length_take]; omega)
        have h32 : 2 ^ k ≤ 2 ^ 5 := Nat.pow_le_pow_right (by decide) (by omega)
        have h32' : (2 : Nat) ^ 5 = 32 := rfl
        have mid : ∀ {ds : DS} {i : Nat}, True := fun {_ _} => trivial
        refine xg_name (by decide) <| xs_seq <| xs_set ?_
        refine xp_mapD (l := sumsN S n (p.take k)) (enc := rowD) (fun v => rowD (List.zipWith (· + ·) v (rowAt S n r))) (xd_var rfl) (by omega) ?_ ?_
        · intro z v hv
          refine xg_name (by decide) ⟨rfl, ?_⟩
          refine xp_two (f := (· + ·)) hS hrm (sumsN_wide (List.mem_of_getElem? hv)) (by decide) (by decide) ?_ (fun x y _ => xp_op <| xp_var rfl <| xp_var rfl <| xo_i0 ⟨rfl, rfl⟩) ⟨rfl, rfl⟩
          exact xa_cons <| xp_var rfl <| xa_cons <| xp_op <| xp_var rfl <| xp_var rfl <| xo_ixL (d := rowD (rowAt S n r)) (at_nat (map_at (hS.rowAt hrm))) <| xa_nil ⟨rfl, rfl⟩
        refine xs_set <| xp_op <| xp_var rfl ?_
        refine xp_mapD (l := sumsN S n (p.take k)) (enc := rowD) (fun v => rowD (List.zipWith (· - ·) v (rowAt S n r))) (xd_var rfl) (by omega) ?_ ?_
        · intro z v hv
          refine xg_name (by decide) ⟨rfl, ?_⟩
          refine xp_two (f := (· - ·)) hS hrm (sumsN_wide (List.mem_of_getElem? hv)) (by decide) (by decide) ?_ (fun x y _ => xp_op <| xp_var rfl <| xp_var rfl <| xo_i0 ⟨rfl, rfl⟩) ⟨rfl, rfl⟩
          exact xa_cons <| xp_var rfl <| xa_cons <| xp_op <| xp_var rfl <| xp_var rfl <| xo_ixL (d := rowD (rowAt S n r)) (at_nat (map_at (hS.rowAt hrm))) <| xa_nil ⟨rfl, rfl⟩
        refine xo_cat (by rw [List.length_map, List.length_map]; omega) ?_
        rw [show p.take (k + 1) = p.take k ++ [r] by rw [List.take_add_one, hr]; rfl, tabD_step]
        exact ⟨_, _, _, _, _, rfl, rfl⟩
      · rintro ds' M3 ⟨d, e, f, g, h, rfl, rfl⟩
        rw [List.take_length]
        have hlen := sumsN_len S n _ p rfl
        have h32 : 2 ^ p.length ≤ 2 ^ 5 := Nat.pow_le_pow_right (by decide) (by omega)
        have h32' : (2 : Nat) ^ 5 = 32 := rfl
        refine xs_if <| xt_tst <| xp_op ?_
        refine xp_lcD (l := sumsN S n p) (enc := rowD) (fun v => if within v then some (rowD v) else none) (xd_var rfl) (by omega) ?_ ?_
        · intro z v hv
          have hw := sumsN_wide (List.mem_of_getElem? hv)
          have n0 := hS.n0
          refine xg_name (by decide) ⟨rfl, ?_⟩
          refine xt_and <| xt_tst <| xp_op <| xp_cb <| xa_cons <| xp_var rfl <| xa_nil <| xc_max (by omega) fun mx hmx hle => xp_int <| xo_b0 ⟨_, rfl, fun h1 => ?_, fun h1 => ?_⟩
          · refine xt_tst <| xp_op <| xp_cb <| xa_cons <| xp_var rfl <| xa_nil <| xc_min (by omega) fun mn hmn hge => xp_un <| xp_int <| xu_neg <| xo_b0 ⟨_, rfl, rfl, ?_, fun h2 => ?_⟩
            · have h1 := of_decide_eq_true h1
              by_cases hmin : -1 ≤ mn
              · rw [if_pos (within_iff.mpr fun x hx => ⟨Int.le_trans hmin (hge x hx), Int.le_trans (hle x hx) h1⟩)]
                exact decide_eq_true hmin
              · rw [if_neg fun h => hmin (within_iff.mp h mn hmn).1]
                exact decide_eq_false hmin
            · have h1 := of_decide_eq_true h1
              have h2 := of_decide_eq_true h2
              exact xp_var rfl ⟨rfl, rowD v, if_pos (within_iff.mpr fun x hx => ⟨Int.le_trans h2 (hge x hx), Int.le_trans (hle x hx) h1⟩), rfl⟩
          · have h1 := of_decide_eq_false h1
            refine ⟨rfl, ?_, fun h => (by cases h)⟩
            rw [if_neg fun h => h1 (within_iff.mp h mx hmx).2]; rfl
        · refine xp_lst <| xa_nil ⟨[], rfl, by decide, xo_eqD (.dat _) (.dat _) ?_ (shD.mono (shD.nil 0) (by decide)) ⟨_, rfl, ?_⟩⟩
          · refine shD.mono (k := 1 + 1) (shD.list fun d hd => ?_) (by decide)
            obtain ⟨v, _, hv⟩ := List.mem_filterMap.mp hd
            split at hv
            · cases hv; exact shD.nums _ _
            · cases hv
          · rw [eqv_nil]
            by_cases hh : Has S n p
            · obtain ⟨v, hv, hin⟩ := has_sums.mp hh
              refine no ?_ (xs_nil ⟨_, _, _, _, _, _, _, rfl, rfl, fun q hq => ?_⟩)
              · rw [List.isEmpty_eq_false_iff]
                exact List.ne_nil_of_mem (List.mem_filterMap.mpr ⟨v, hv, if_pos (within_iff.mpr hin)⟩)
              · rw [List.take_add_one, hp] at hq
                rcases List.mem_append.mp hq with hq | hq
                · exact okp q hq
                · obtain rfl : q = p := by simpa using hq
                  exact hh
            · refine yes ?_ (xs_ret <| xp_bl <| fin false ⟨fun z => (by cases z), fun u => ?_⟩)
              · rw [List.isEmpty_iff, List.filterMap_eq_nil_iff]
                intro v hv
                refine if_neg fun h => hh (has_sums.mpr ⟨v, hv, within_iff.mp h⟩)
              · exact absurd (u p (mem_allPicksN.mpr ⟨fun z => (by rw [z] at pi; cases pi.1), pi.2⟩)) hh
    · rintro ds' M2 ⟨a, c, d, e, f, g, h, rfl, rfl, okp⟩
      rw [List.take_length] at okp
      refine ⟨_, _, _, _, _, _, _, _, rfl, rfl, fun s hs => ?_⟩
      rcases Nat.lt_or_eq_of_le (Nat.le_of_lt_succ hs) with hs | rfl
      · exact ok s hs
      · exact okp
  · rintro ds' M' ⟨a, b, c, d, e, f, g, h, rfl, rfl, ok⟩
    rw [List.length_range] at ok
    refine xs_ret <| xp_bl <| fin true ⟨fun _ p hp => ?_, fun _ => rfl⟩
    unfold allPicksN at hp
    obtain ⟨s, hs, hp⟩ := List.mem_flatMap.mp hp
    exact ok s (List.mem_range.mp hs) p hp
end
end K62
end
section
set_option Elab.async false
set_option linter.all false
set_option maxRecDepth 100000
set_option maxHeartbeats 4000000
set_option autoImplicit false
namespace K62
open PySem L2
section
variable {P : Program} {w : World} {K : PySem.W.Frag} {mg : Str → Option Value} {base : Heap}
/-! ### labels -/
abbrev nD (l : List Nat) : PyData := .list (nums (natI l))
def websM (C dx : Addr) (lr lc : List Nat) : MO := .ins C dx [("row_labels", .dat (nD lr)), ("column_labels", .dat (nD lc))]
def relab (old new : Nat) (l : List Nat) : List Nat := l.map fun x => if x = old then new else x
theorem nD_range (a n : Nat) : PyData.list (nums ((List.range n).map fun i => (a : Int) + (i : Nat))) = nD ((List.range n).map fun i => a + i) := by
  rw [nD, natI, List.map_map]
  congr 2
theorem nD_at {l : List Nat} {i x : Nat} (h : l[i]? = some x) : atI (nums (natI l)) ((i : Nat) : Int) = some (.int x) := at_nat (map_at (map_at h))
def p_init (C : Addr) : SpP := fun xs M Φ => ∃ (x dx : Addr) (m n : Nat), m ≤ 100 ∧ n ≤ 100 ∧ M x = some (.ins C dx []) ∧ xs = [.adr x, .dat (.int m), .dat (.int n)] ∧ Φ (.dat .none) (M.up x (websM C dx (List.range m) ((List.range n).map fun i => m + i)))
theorem ok_Webs___init__ (T : Txt w K mg) : FnOk P w K mg base CX0 1 T.fI T.fdI ["self", "many", "wide"] (spE K (p_init T.CW)) := by
  refine fn_ok T.FI sc_Webs___init__ (fun xs M Φ ⟨_, _, _, _, _, _, _, h, _⟩ => by rw [h]; rfl) fun cdv A outer s H E hr => ?_
  have nd := sc_Webs___init__.nd
  refine ⟨_, (pss_cons (ksf (K := K) rfl (ps_fld (pv 0) (pe_listRg rfl rfl T.z_list (prg_1 rfl T.z_range (pv 1))) rfl))
      (pss_one (ksf (K := K) rfl (ps_fld (pv 0) (pe_listRg rfl rfl T.z_list (prg_2 rfl T.z_range (pv 1) (pe_op op_add (pv 1) (pv 2)))) rfl)))), ?_⟩
  rintro xs M Φ ⟨x, dx, m, n, hm, hn, hx, rfl, fin⟩
  refine xs_seq <| xs_fld T.clW T.nR <| xp_lstRg1 <| xp_var rfl ⟨m, rfl, by omega, xp_var rfl ⟨x, dx, [], rfl, hx, by decide, ?_⟩⟩
  refine xs_fld T.clW T.nC <| xp_lstRg2 <| xp_var rfl <| xp_op <| xp_var rfl <| xp_var rfl <| xo_i0 ⟨m, n, rfl, rfl, by omega, by omega, xp_var rfl ⟨x, dx, _, rfl, MH.up_same, (show 1 < 1000 by decide), ?_⟩⟩
  have e : (M.up x (.ins T.CW dx (putD "row_labels" (.dat (.list (nums ((List.range m).map fun i => ((i : Nat) : Int))))) []))).up x (.ins T.CW dx (putD "column_labels" (.dat (.list (nums ((List.range n).map fun i => (m : Int) + (i : Nat))))) (putD "row_labels" (.dat (.list (nums ((List.range m).map fun i => ((i : Nat) : Int))))) []))) = M.up x (websM T.CW dx (List.range m) ((List.range n).map fun i => m + i)) := by
    rw [nD_range]
    funext b
    unfold MH.up
    by_cases z : b = x
    · rw [if_pos z, if_pos z]; rfl
    · rw [if_neg z, if_neg z, if_neg z]
  rw [e]
  exact fin
def p_join (C : Addr) : SpP := fun xs M Φ => ∃ (x dx : Addr) (lr lc : List Nat) (i j new old : Nat), lr.length ≤ 100 ∧ lc.length ≤ 100 ∧ lr[i]? = some new ∧ lc[j]? = some old ∧ M x = some (websM C dx lr lc) ∧ xs = [.adr x, .dat (.int i), .dat (.int j)] ∧
  (old = new → Φ (.dat (.bool false)) M) ∧ (old ≠ new → Φ (.dat (.bool true)) (M.up x (websM C dx (relab old new lr) (relab old new lc))))
/-- [new if label == old else label for label in self.f] -/
theorem xp_relab {C : Addr} (cl : Cls K C) {f : Str} (na : NoAttr K C f) {ds : DS} {M : MH} {Φ : Ds → MH → Prop} {x dx : Addr} {fs : List (Str × Ds)} {l : List Nat} {old new : Nat} (hl : l.length ≤ 100) (h0 : ds[0]? = some (some (.adr x))) (hx : M x = some (.ins C dx fs)) (hf : fs.lookup f = some (.dat (nD l)))
    (h3 : ((wipeD ds [5])).length = 6) (e3 : (wipeD ds [5])[3]? = some (some (.dat (.int old)))) (e4 : (wipeD ds [5])[4]? = some (some (.dat (.int new)))) (k : Φ (.dat (nD (relab old new l))) M) :
    Xp K (tLc (iList K (tFld K (tVar 0) f)) (gName 5) tYes (tIf (tTest (tOp (rEqD K) (tVar 5) (tVar 3))) (tVar 4) (tVar 5)) [5]) ds M Φ := by
  refine xp_mapD (l := l) (enc := fun y : Nat => .int y) (fun y => .int ((if y = old then new else y : Nat) : Int)) ?_ (by omega) ?_ ?_
  · rw [show (l.map fun y : Nat => PyData.int y) = nums (natI l) by rw [nums, natI, List.map_map]; rfl]
    exact xd_list <| xp_fld cl na <| xp_var h0 ⟨x, dx, fs, _, rfl, hx, hf, rfl, rfl⟩
  · intro i y hy
    refine xg_name (by decide) ⟨rfl, ?_⟩
    refine xp_if <| xt_tst <| xp_op <| xp_var (x := .dat (.int y)) ?_ <| xp_var (x := .dat (.int old)) ?_ <| xo_eqD (.dat _) (.dat _) (shD.int _ _) (shD.int _ _) ⟨_, rfl, ?_⟩
    · rw [List.getElem?_set_self (by omega)]
    · rw [List.getElem?_set_ne (by decide)]; exact e3
    · rw [eqv_nat]
      by_cases z : y = old
      · refine yes (decide_eq_true z) <| xp_var (x := .dat (.int new)) ?_ ⟨rfl, by rw [if_pos z]⟩
        rw [List.getElem?_set_ne (by decide)]; exact e4
      · refine no (decide_eq_false z) <| xp_var (x := .dat (.int y)) ?_ ⟨rfl, by rw [if_neg z]⟩
        rw [List.getElem?_set_self (by omega)]
  · have e : (l.map fun y => PyData.int ((if y = old then new else y : Nat) : Int)) = nums (natI (relab old new l)) := by
      rw [nums, natI, relab, List.map_map, List.map_map]; rfl
    rw [e]
    exact k
theorem ok_Webs_join (T : Txt w K mg) : FnOk P w K mg base CX0 1 T.fJ T.fdJ ["self", "i", "j"] (spE K (p_join T.CW)) := by
  refine fn_ok T.FJ sc_Webs_join (fun xs M Φ ⟨_, _, _, _, _, _, _, _, _, _, _, _, _, h, _⟩ => by rw [h]; rfl) fun cdv A outer s H E hr => ?_
  have nd := sc_Webs_join.nd
  refine ⟨_, (pss_cons (ps_set (i := 3) nd rfl (Or.inr rfl) (pe_ix (k_ix (K := K) rfl) (kfl (K := K) rfl (pe_fld (pv 0) rfl)) (pv 2) (fun _ _ => rfl)))
      (pss_cons (ps_set (i := 4) nd rfl (Or.inr rfl) (pe_ix (k_ix (K := K) rfl) (kfl (K := K) rfl (pe_fld (pv 0) rfl)) (pv 1) (fun _ _ => rfl)))
      (pss_cons (ps_if (pt_cmpR (k_eq (K := K) rfl (u64 hr)) (pv 3) (pv 4) (nomark _)) (pss_one (ps_ret pe_bl)) pss_nil)
      (pss_cons (ksf (K := K) rfl (ps_fld (pv 0) (pe_lc (own := [("label", 5)]) rfl nd (kiL (K := K) rfl (pi_list (kfl (K := K) rfl (pe_fld (pv 0) rfl)))) (blkOk_by (by kernel_rfl)) (fun _ _ _ _ _ => (pg_name (i := 5) nd rfl (Or.inl rfl))) (fun _ _ _ _ _ => pts_nil) (fun _ _ _ _ _ => (pe_ifExp (pt_cmpR (k_eq (K := K) rfl (u64 hr)) (pv 5) (pv 3) (nomark _)) (pv 4) (pv 5)))) rfl))
      (pss_cons (ksf (K := K) rfl (ps_fld (pv 0) (pe_lc (own := [("label", 5)]) rfl nd (kiL (K := K) rfl (pi_list (kfl (K := K) rfl (pe_fld (pv 0) rfl)))) (blkOk_by (by kernel_rfl)) (fun _ _ _ _ _ => (pg_name (i := 5) nd rfl (Or.inl rfl))) (fun _ _ _ _ _ => pts_nil) (fun _ _ _ _ _ => (pe_ifExp (pt_cmpR (k_eq (K := K) rfl (u64 hr)) (pv 5) (pv 3) (nomark _)) (pv 4) (pv 5)))) rfl))
      (pss_one (ps_ret pe_bl))))))), ?_⟩
  rintro xs M Φ ⟨x, dx, lr, lc, i, j, new, old, hlr, hlc, hi, hj, hx, rfl, f0, f1⟩
  refine xs_seq <| xs_set <| xp_op <| xp_fld T.clW T.nC <| xp_var rfl ⟨x, dx, _, _, rfl, hx, rfl, xp_var rfl <| xo_ixL (nD_at hj) ?_⟩
  refine xs_seq <| xs_set <| xp_op <| xp_fld T.clW T.nR <| xp_var rfl ⟨x, dx, _, _, rfl, hx, rfl, xp_var rfl <| xo_ixL (nD_at hi) ?_⟩
  refine xs_seq <| xs_if <| xt_tst <| xp_op <| xp_var rfl <| xp_var rfl <| xo_eqD (.dat _) (.dat _) (shD.int _ _) (shD.int _ _) ⟨_, rfl, ?_⟩
  rw [eqv_nat]
  by_cases z : old = new
  · exact yes (decide_eq_true z) <| xs_ret <| xp_bl <| f0 z
  · refine no (decide_eq_false z) <| xs_nil ?_
    refine xs_seq <| xs_fld T.clW T.nR ?_
    refine xp_relab T.clW T.nR hlr rfl hx rfl rfl rfl rfl ?_
    refine xp_var rfl ⟨x, dx, _, rfl, hx, (show 2 < 1000 by decide), ?_⟩
    refine xs_seq <| xs_fld T.clW T.nC ?_
    refine xp_relab T.clW T.nC (dx := dx) hlc rfl MH.up_same rfl rfl rfl rfl ?_
    refine xp_var rfl ⟨x, dx, _, rfl, MH.up_same, (show 2 < 1000 by decide), ?_⟩
    refine xs_ret <| xp_bl ?_
    have e : (M.up x (.ins T.CW dx (putD "row_labels" (.dat (nD (relab old new lr))) [("row_labels", .dat (nD lr)), ("column_labels", .dat (nD lc))]))).up x (.ins T.CW dx (putD "column_labels" (.dat (nD (relab old new lc))) (putD "row_labels" (.dat (nD (relab old new lr))) [("row_labels", .dat (nD lr)), ("column_labels", .dat (nD lc))]))) = M.up x (websM T.CW dx (relab old new lr) (relab old new lc)) := by
      funext b
      unfold MH.up
      by_cases z : b = x
      · rw [if_pos z, if_pos z]; rfl
      · rw [if_neg z, if_neg z, if_neg z]
    rw [e]
    exact f1 z
end
end K62
end
section
set_option Elab.async false
set_option linter.all false
set_option maxRecDepth 100000
set_option maxHeartbeats 4000000
set_option autoImplicit false
namespace K62
open PySem L2
theorem filterMap_if {α β : Type} (p : α → Prop) [DecidablePred p] (g : α → β) : ∀ l : List α, l.filterMap (fun x => if p x then some (g x) else none) = (l.filter fun x => decide (p x)).map g
  | [] => rfl
  | x :: l => by
    by_cases h : p x
    · simp [h, filterMap_if p g l]
    · simp [h, filterMap_if p g l]
theorem zipIdx_row (S : Tab) (n a : Nat) : (rowAt S n a).zipIdx = (List.range n).map fun b => (ent S a b, b) := by
  refine List.ext_getElem? fun i => ?_
  unfold rowAt
  rw [List.getElem?_zipIdx, List.getElem?_map, List.getElem?_map]
  by_cases h : i < n
  · rw [List.getElem?_range h]; simp
  · rw [List.getElem?_eq_none (by rw [List.length_range]; omega)]; rfl
def kindD : Nd → PyData
  | .row _ => .str (Str.ofString "row")
  | .col _ => .str (Str.ofString "column")
def atN : Nd → Nat
  | .row a => a
  | .col b => b
def ndD (y : Nd) : PyData := .tuple [kindD y, .int (atN y)]
def spD (s : Spot) : PyData := .tuple [.int s.1, .int s.2]
def nbD (x : Nd × Spot) : PyData := .tuple [ndD x.1, spD x.2]
theorem sh_row (k : Nat) : shD k (.str (Str.ofString "row")) := shD.str k (by decide +kernel)
theorem sh_col (k : Nat) : shD k (.str (Str.ofString "column")) := shD.str k (by decide +kernel)
section
variable {P : Program} {w : World} {K : PySem.W.Frag} {mg : Str → Option Value} {base : Heap}
def p_neighbours : SpP := fun xs M Φ => ∃ (p : Addr) (qs : List Addr) (S : Tab) (m n : Nat) (y : Nd), TabQ M p qs S ∧ Rect S m n ∧ y ∈ nodes m n ∧ xs = [.adr p, .dat (kindD y), .dat (.int (atN y))] ∧ Φ (.dat (.list ((nbrs (ent S) m n y).map nbD))) M
theorem ok_neighbours (T : Txt w K mg) : FnOk P w K mg base CX0 1 T.d_neighbours.f T.d_neighbours.fd ["signs", "kind", "at"] (spE K p_neighbours) := by
  refine fn_ok T.d_neighbours.F sc_neighbours (fun xs M Φ ⟨_, _, _, _, _, _, _, _, _, h, _⟩ => by rw [h]; rfl) fun cdv A outer s H E hr => ?_
  have nd := sc_neighbours.nd
  refine ⟨_, (pss_cons (ps_if (pt_cmpR (k_eq (K := K) rfl (u64 hr)) (pv 1) pe_str (nomark _)) (pss_one (ps_ret (pe_lc (own := [("j", 4), ("sign", 5)]) rfl nd (kiE (K := K) rfl (pi_enum (by rfl) T.z_enumerate (pa_cons (pe_ix (k_ix (K := K) rfl) (pv 0) (pv 2) (fun _ _ => rfl)) pa_nil))) (blkOk_by (by kernel_rfl)) (fun _ _ _ _ _ => (kgT (K := K) rfl (pg_tup (n := 2) rfl (pgs_cons (pg_name (i := 4) nd rfl (Or.inl rfl)) (pgs_cons (pg_name (i := 5) nd rfl (Or.inl rfl)) pgs_nil))))) (fun _ _ _ _ _ => (pts_one (pt_cmpR (k_ne (K := K) rfl (u64 hr)) (pv 5) pe_int (nomark _)))) (fun _ _ _ _ _ => (pe_tup (pa_cons (pe_tup (pa_cons pe_str (pa_cons (pv 4) pa_nil))) (pa_cons (pe_tup (pa_cons (pv 2) (pa_cons (pv 4) pa_nil))) pa_nil))))))) pss_nil)
      (pss_one (ps_ret (pe_lc (own := [("i", 3)]) rfl nd (pi_range1 (by rfl) T.z_range (pa_cons (pe_callB (k_len (K := K) rfl) (by rfl) T.z_len (by decide +kernel) (pa_cons (pv 0) pa_nil)) pa_nil)) (blkOk_by (by kernel_rfl)) (fun _ _ _ _ _ => (pg_name (i := 3) nd rfl (Or.inl rfl))) (fun _ _ _ _ _ => (pts_one (pt_cmpR (k_ne (K := K) rfl (u64 hr)) (pe_ix (k_ix (K := K) rfl) (pe_ix (k_ix (K := K) rfl) (pv 0) (pv 3) (fun _ _ => rfl)) (pv 2) (fun _ _ => rfl)) pe_int (nomark _)))) (fun _ _ _ _ _ => (pe_tup (pa_cons (pe_tup (pa_cons pe_str (pa_cons (pv 3) pa_nil))) (pa_cons (pe_tup (pa_cons (pv 3) (pa_cons (pv 2) pa_nil))) pa_nil)))))))), ?_⟩
  rintro xs M Φ ⟨p, qs, S, m, n, y, hT, hS, hy, rfl, fin⟩
  have m5 := hS.m5
  have n5 := hS.n5
  cases y with
  | row a =>
    have ha : a < m := by
      rcases List.mem_append.mp hy with h | h
      · obtain ⟨_, h, e⟩ := List.mem_map.mp h; cases e; exact List.mem_range.mp h
      · obtain ⟨_, h, e⟩ := List.mem_map.mp h; cases e
    have hr := hS.rowAt ha
    obtain ⟨q, hq, hm⟩ := hT.at hr
    refine xs_seq <| xs_if <| xt_tst <| xp_op <| xp_var rfl <| xp_str <| xo_eqD (.dat _) (.dat _) (sh_row _) (sh_row _) ⟨_, rfl, yes (show PyData.eqv (.str (Str.ofString "row")) (.str (Str.ofString "row")) = true by decide +kernel) <| xs_ret ?_⟩
    refine xp_lcW (Gd0 := fun M' => M' q = some (rowM (rowAt S n a))) (l := (rowAt S n a).zipIdx) (enc := fun z => .tuple [.int (z.2 : Nat), .int z.1]) (fun z => if z.1 ≠ 0 then some (nbD (.col z.2, (a, z.2))) else none) ?_ hm ?_ ?_ ?_
    · rw [← enumD_map PyData.int]
      refine xw_enumM (xa_cons <| xp_op <| xp_var rfl <| xp_var rfl <| xo_ixM (x := .adr q) hT.top (at_nat (by rw [List.getElem?_map]; show (qs[a]?).map Ds.adr = _; rw [hq]; rfl)) <| xa_nil ⟨rfl, rfl⟩) hm
    · rw [List.length_zipIdx, rowAt_len]; omega
    · rintro i ⟨v, b⟩ hi
      refine xg_tup rfl <| xgs_cons <| xg_name (by decide) <| xgs_cons <| xg_name (by decide) <| xgs_nil ⟨rfl, ?_⟩
      refine xt_tst <| xp_op <| xp_var rfl <| xp_int <| xo_neD (.dat _) (.dat _) (shD.int _ _) (shD.int _ _) ⟨_, rfl, rfl, ?_, fun h => ?_⟩
      · rw [eqv_int]
        by_cases z : v = 0
        · rw [if_neg (by simpa using z), decide_eq_true z]; rfl
        · rw [if_pos z, decide_eq_false z]; rfl
      · rw [eqv_int] at h
        have z : v ≠ 0 := fun z => by rw [decide_eq_true z] at h; cases h
        refine xp_tup <| xa_cons <| xp_tup <| xa_cons <| xp_str <| xa_cons <| xp_var rfl <| xa_nil ⟨[_, _], rfl, by simp, xa_cons <| xp_tup <| xa_cons <| xp_var rfl <| xa_cons <| xp_var rfl <| xa_nil ⟨[_, _], rfl, by simp, xa_nil ⟨[_, _], rfl, by simp, rfl, _, if_pos z, rfl⟩⟩⟩
    · rw [filterMap_if (fun z : Int × Nat => z.1 ≠ 0) (fun z => nbD (.col z.2, (a, z.2))), zipIdx_row, List.filter_map, List.map_map]
      have e : ((nbrs (ent S) m n (.row a)).map nbD) = ((List.range n).filter fun b => decide (ent S a b ≠ 0)).map fun b => nbD (.col b, (a, b)) := by
        unfold nbrs; rw [List.map_map]; rfl
      rw [e] at fin
      exact fin
  | col b =>
    have hb : b < n := by
      rcases List.mem_append.mp hy with h | h
      · obtain ⟨_, h, e⟩ := List.mem_map.mp h; cases e
      · obtain ⟨_, h, e⟩ := List.mem_map.mp h; cases e; exact List.mem_range.mp h
    refine xs_seq <| xs_if <| xt_tst <| xp_op <| xp_var rfl <| xp_str <| xo_eqD (.dat _) (.dat _) (sh_col _) (sh_row _) ⟨_, rfl, no (show PyData.eqv (.str (Str.ofString "column")) (.str (Str.ofString "row")) = false by decide +kernel) <| xs_nil <| xs_ret ?_⟩
    refine xp_lcD (l := List.range m) (enc := fun i : Nat => .int i) (fun i => if ent S i b ≠ 0 then some (nbD (.row i, (i, b))) else none) ?_ (by rw [List.length_range]; omega) ?_ ?_
    · rw [← rngD0]
      refine xd_rng1 (by omega) <| xa_cons <| xp_cb <| xa_cons <| xp_var rfl <| xa_nil <| xc_lenM hT.top <| xa_nil ⟨?_, rfl⟩
      rw [List.length_map, hT.len, hS.len]
    · intro i i' hi
      obtain ⟨hi', rfl⟩ := range_at hi
      refine xg_name (by decide) ⟨rfl, ?_⟩
      obtain ⟨r, hr, hv⟩ := hS.cell hi' hb
      refine xt_tst <| xp_op <| xp_cellM hr hv <| xp_var rfl ⟨rfl, xp_var rfl ⟨rfl, hT, xp_var rfl ⟨rfl, hT, ?_⟩⟩⟩
      refine xp_int <| xo_neD (.dat _) (.dat _) (shD.int _ _) (shD.int _ _) ⟨_, rfl, rfl, ?_, fun h => ?_⟩
      · rw [eqv_int]
        by_cases z : ent S i b = 0
        · rw [if_neg (by simpa using z), decide_eq_true z]; rfl
        · rw [if_pos z, decide_eq_false z]; rfl
      · rw [eqv_int] at h
        have z : ent S i b ≠ 0 := fun z => by rw [decide_eq_true z] at h; cases h
        refine xp_tup <| xa_cons <| xp_tup <| xa_cons <| xp_str <| xa_cons <| xp_var rfl <| xa_nil ⟨[_, _], rfl, by simp, xa_cons <| xp_tup <| xa_cons <| xp_var rfl <| xa_cons <| xp_var rfl <| xa_nil ⟨[_, _], rfl, by simp, xa_nil ⟨[_, _], rfl, by simp, rfl, _, if_pos z, rfl⟩⟩⟩
    · rw [filterMap_if (fun i : Nat => ent S i b ≠ 0) (fun i => nbD (.row i, (i, b)))]
      have e : ((nbrs (ent S) m n (.col b)).map nbD) = ((List.range m).filter fun i => decide (ent S i b ≠ 0)).map fun i => nbD (.row i, (i, b)) := by
        unfold nbrs; rw [List.map_map]; rfl
      rw [e] at fin
      exact fin
end
end K62
end
section
set_option Elab.async false
set_option linter.all false
set_option maxRecDepth 100000
set_option maxHeartbeats 4000000
set_option autoImplicit false
namespace K62
open PySem L2
/-! ### the search, as the program keeps it -/
def kindS : Nd → Str
  | .row _ => Str.ofString "row"
  | .col _ => Str.ofString "column"
def ndK (y : Nd) : List L2.Key := [.inr (kindS y), .inl (atN y)]
theorem ndK_D (y : Nd) : (ndK y).map kD = [kindD y, .int (atN y)] := by cases y <;> rfl
theorem ndD_K (y : Nd) : ndD y = .tuple ((ndK y).map kD) := by rw [ndK_D]; rfl
theorem ndK_inj {x y : Nd} (h : ndK x = ndK y) : x = y := by
  have h1 : kindS x = kindS y := by injection h with h _; injection h
  have h2 : (atN x : Int) = atN y := by injection h with _ h; injection h with h _; injection h
  cases x <;> cases y
  · have : (atN (.row _) : Nat) = atN (.row _) := Int.ofNat_inj.mp h2
    exact congrArg Nd.row this
  · exact absurd h1 (show ¬ Str.ofString "row" = Str.ofString "column" by decide +kernel)
  · exact absurd h1 (show ¬ Str.ofString "column" = Str.ofString "row" by decide +kernel)
  · have : (atN (.col _) : Nat) = atN (.col _) := Int.ofNat_inj.mp h2
    exact congrArg Nd.col this
def wayD (w : List Spot) : PyData := .list (w.map spD)
def encF (f : Found) : List (List L2.Key × Ds) := f.map fun q => (ndK q.1, .dat (wayD q.2))
theorem look_none {f : Found} {y : Nd} (h : y ∉ keys f) : lookK (encF f) (ndK y) = none := by
  unfold lookK encF
  rw [List.find?_eq_none.mpr]
  · rfl
  · intro q hq
    obtain ⟨a, ha, rfl⟩ := List.mem_map.mp hq
    rw [decide_eq_true_iff]
    exact fun e => h (List.mem_map.mpr ⟨a, ha, ndK_inj e⟩)
theorem look_some {f : Found} {y : Nd} {w : List Spot} (hn : (keys f).Nodup) (h : (y, w) ∈ f) : lookK (encF f) (ndK y) = some (.dat (wayD w)) := by
  induction f with
  | nil => cases h
  | cons a f ih =>
    obtain ⟨h1, h2⟩ := List.nodup_cons.mp (show ((a.1 :: keys f)).Nodup from hn)
    unfold lookK encF
    rw [List.map_cons, List.find?_cons]
    rcases List.mem_cons.mp h with rfl | h
    · simp
    · have ne : a.1 ≠ y := fun e => h1 (e ▸ List.mem_map.mpr ⟨(y, w), h, rfl⟩)
      rw [show decide (ndK a.1 = ndK y) = false from decide_eq_false fun e => ne (ndK_inj e)]
      exact ih h2 h
theorem put_new {f : Found} {y : Nd} {w : List Spot} (h : y ∉ keys f) : putM (encF f) (ndK y) (.dat (wayD w)) = encF (f ++ [(y, w)]) := by
  unfold putM encF
  rw [if_neg]
  · rw [List.map_append]; rfl
  · rw [List.any_eq_true]
    rintro ⟨q, hq, e⟩
    obtain ⟨a, ha, rfl⟩ := List.mem_map.mp hq
    exact h (List.mem_map.mpr ⟨a, ha, ndK_inj (of_decide_eq_true e)⟩)
theorem shD_nd (y : Nd) : shD 3 (ndD y) := shD.tup fun d hd => by
  rcases List.mem_cons.mp hd with rfl | hd
  · cases y
    · exact sh_row _
    · exact sh_col _
  · obtain rfl := List.mem_singleton.mp hd
    exact shD.int _ _
theorem eqv_nd (x y : Nd) : PyData.eqv (ndD x) (ndD y) = decide (x = y) := by
  have e : PyData.eqv (ndD x) (ndD y) = (PyData.eqv (kindD x) (kindD y) && (PyData.eqv (.int (atN x)) (.int (atN y)) && true)) := rfl
  rw [e, eqv_int, Bool.and_true]
  cases x <;> cases y
  · rw [show PyData.eqv (kindD (.row _)) (kindD (.row _)) = true from (show PyData.eqv (.str (Str.ofString "row")) (.str (Str.ofString "row")) = true by decide +kernel), Bool.true_and]
    exact decide_eq_decide.mpr ⟨fun h => congrArg Nd.row (Int.ofNat_inj.mp h), fun h => by injection h with h; rw [h]⟩
  · rw [show PyData.eqv (kindD (.row _)) (kindD (.col _)) = false from (show PyData.eqv (.str (Str.ofString "row")) (.str (Str.ofString "column")) = false by decide +kernel), Bool.false_and]; rfl
  · rw [show PyData.eqv (kindD (.col _)) (kindD (.row _)) = false from (show PyData.eqv (.str (Str.ofString "column")) (.str (Str.ofString "row")) = false by decide +kernel), Bool.false_and]; rfl
  · rw [show PyData.eqv (kindD (.col _)) (kindD (.col _)) = true from (show PyData.eqv (.str (Str.ofString "column")) (.str (Str.ofString "column")) = true by decide +kernel), Bool.true_and]
    exact decide_eq_decide.mpr ⟨fun h => congrArg Nd.col (Int.ofNat_inj.mp h), fun h => by injection h with h; rw [h]⟩
theorem Rect.inn {S : Tab} {m n : Nat} (h : Rect S m n) : ∀ a b, ent S a b ≠ 0 → a < m ∧ b < n := fun a b e => by
  have ha : a < m := by
    by_cases z : a < m
    · exact z
    · exact absurd (by unfold ent; rw [List.getD_eq_getElem?_getD (l := S), List.getElem?_eq_none (by rw [h.len]; omega)]; rfl) e
  refine ⟨ha, ?_⟩
  obtain ⟨r, hr, hl⟩ := h.at ha
  by_cases z : b < n
  · exact z
  · refine absurd ?_ e
    unfold ent
    rw [List.getD_eq_getElem?_getD (l := S), hr, Option.getD_some, List.getD_eq_getElem?_getD, List.getElem?_eq_none (by omega)]; rfl
section
variable {P : Program} {w : World} {K : PySem.W.Frag} {mg : Str → Option Value} {base : Heap}
def p_way : SpP := fun xs M Φ => ∃ (p : Addr) (qs : List Addr) (S : Tab) (m n i j : Nat), TabQ M p qs S ∧ Rect S m n ∧ i < m ∧ (∃ v, Way (ent S) (.row i) (.col j) v) ∧ xs = [.adr p, .dat (.int i), .dat (.int j)] ∧ ∀ w, Short (ent S) i j w → w.length ≤ 10 → Φ (.dat (wayD w)) M
/-- what stands between two turns -/
structure SI (M M' : MH) (d fr : Addr) (f : Found) (k : Nat) : Prop where
  sub : Sub M M'
  nd : M d = none
  nf : M fr = none
  ne : d ≠ fr
  found : M' d = some (.dT (encF f))
  front : M' fr = some (.lst (dats ((f.drop k).map fun q => ndD q.1)))
  lens : ∀ (a : Nat) (q : Nd × List Spot), f[a]? = some q → q.2.length ≤ a
theorem ok_way_between (T : Txt w K mg) : FnOk P w K mg base CX0 2 T.d_way_between.f T.d_way_between.fd ["signs", "i", "j"] (spE K p_way) := by
  refine fn_ok T.d_way_between.F sc_way_between (fun xs M Φ ⟨_, _, _, _, _, _, _, _, _, _, _, h, _⟩ => by rw [h]; rfl) fun cdv A outer s H E hr => ?_
  have nd := sc_way_between.nd
  refine ⟨_, (pss_cons (ps_set (i := 3) nd rfl (Or.inl rfl) (pe_disp1T (hu_of hr) (pe_tup (pa_cons pe_str (pa_cons (pv 1) pa_nil))) (pe_lst pa_nil)))
      (pss_cons (ps_set (i := 4) nd rfl (Or.inl rfl) (pe_lst (pa_cons (pe_tup (pa_cons pe_str (pa_cons (pv 1) pa_nil))) pa_nil)))
      (pss_cons (ps_while PassesOwn.never (pt_cmpR (k_ne (K := K) rfl (u64 hr)) (pv 4) (pe_lst pa_nil) (nomark _)) (pss_cons (ps_set (i := 5) nd rfl (Or.inl rfl) (pe_ix (k_ix (K := K) rfl) (pv 4) pe_int (fun _ _ => rfl)))
      (pss_cons (ps_set (i := 4) nd rfl (Or.inl rfl) (pe_slice (k_sl (K := K) rfl) (pv 4) (po_some pe_int) po_none))
      (pss_cons (ps_asg (pv 5) (kgT (K := K) rfl (pg_tup (n := 2) rfl (pgs_cons (pg_name (i := 6) nd rfl (Or.inl rfl)) (pgs_cons (pg_name (i := 7) nd rfl (Or.inl rfl)) pgs_nil)))))
      (pss_cons (ps_if (pt_cmpR (k_eq (K := K) rfl (u64 hr)) (pv 5) (pe_tup (pa_cons pe_str (pa_cons (pv 2) pa_nil))) (nomark _)) (pss_one (ps_ret (pe_dget (hu_of hr) (pv 3) (pv 5) (fun _ _ => rfl)))) pss_nil)
      (pss_one (ps_for PassesOwn.never rfl (kiL (K := K) rfl (pi_list (pe_call (ok_neighbours T) (hr.mono (by first | decide | omega)) rfl T.d_neighbours.m T.d_neighbours.F.kp T.d_neighbours.b .nil pass0 (pa_cons (pv 0) (pa_cons (pv 6) (pa_cons (pv 7) pa_nil)))))) (kgT (K := K) rfl (pg_tup (n := 2) rfl (pgs_cons (pg_name (i := 8) nd rfl (Or.inl rfl)) (pgs_cons (pg_name (i := 9) nd rfl (Or.inl rfl)) pgs_nil)))) (pss_one (ps_if (pt_cmp (pc_dnotin (hu_of hr) (pv 8) (pv 3))) (pss_cons (ps_dput (hu_of hr) (pv 3) (pv 8) (pe_op op_cat (pe_dget (hu_of hr) (pv 3) (pv 5) (fun _ _ => rfl)) (pe_lst (pa_cons (pv 9) pa_nil))) rfl)
      (pss_one (ps_expr (kbm (K := K) rfl (pe_bm PySem.F.plainAttrs_list PySem.F.slot_list_append PySem.F.type_list_append mt_append (pv 4) (pa_cons (pv 8) pa_nil)))))) pss_nil)))))))))
      (pss_one (ps_ret pe_non))))), ?_⟩
  rintro xs M Φ ⟨p, qs, S, m, n, i, j, hT, hS, hi, ⟨v, hv⟩, rfl, fin⟩
  have m5 := hS.m5
  have n5 := hS.n5
  have inn := hS.inn
  refine xs_pure ?_
  refine xs_seq <| xs_set <| xp_disp1T fun d hd => xp_tup <| xa_cons <| xp_str <| xa_cons <| xp_var rfl <| xa_nil ⟨[_, _], rfl, (show 2 ≤ 100000 by decide), xp_lst <| xa_nil ⟨[], rfl, (show 0 ≤ 100000 by decide), ndK (.row i), rfl, MH.up_same, ?_⟩⟩
  refine xs_seq <| xs_set <| xp_lstM <| xa_cons <| xp_tup <| xa_cons <| xp_str <| xa_cons <| xp_var rfl <| xa_nil ⟨[_, _], rfl, (show 2 ≤ 100000 by decide), xa_nil ⟨(show 1 ≤ 100000 by decide), fun fr hfr => ?_⟩⟩
  have hfd : fr ≠ d := fun e => by subst e; rw [MH.up_same] at hfr; cases hfr
  have hf0 : M fr = none := by rw [MH.up_ne hfd, MH.up_ne hfd] at hfr; exact hfr
  refine xs_seq <| xs_while (Wf := fun μ ds' M' => ∃ fr f k a b c e g, ds' = [some (.adr p), some (.dat (.int i)), some (.dat (.int j)), some (.adr d), some (.adr fr), a, b, c, e, g] ∧ SI M M' d fr f k ∧ BI (ent S) m n i j f k ∧ μ + k = 10) 10 ?_ ?_
  · refine ⟨fr, [(.row i, [])], 0, _, _, _, _, _, rfl, ⟨?_, hd, hf0, fun e => hfd e.symm, ?_, ?_, ?_⟩, BI.start, rfl⟩
    · exact (((Sub.refl M).new hd).new hd).new hf0
    · rw [MH.up_ne (fun e => hfd e.symm), MH.up_same]; rfl
    · rw [MH.up_same]; rfl
    · intro a q hq
      obtain rfl := List.mem_singleton.mp (List.mem_of_getElem? hq)
      exact Nat.zero_le _
  · rintro μ ds' M' ⟨fr, f, k, a, b, c, e, g, rfl, si, bi, hk⟩
    have hT' := hT.sub si.sub
    refine xt_tst <| xp_op <| xp_var rfl <| xp_lst <| xa_nil ⟨[], rfl, (show 0 ≤ 100000 by decide), xo_neD (.lst si.front) (.dat _) ?_ (shD.mono (shD.nil 0) (by decide)) ⟨_, rfl, fun h => ?_, fun h => ?_⟩⟩
    · refine shD.mono (k := 3 + 1) (shD.list fun z hz => ?_) (by decide)
      obtain ⟨q, _, rfl⟩ := List.mem_map.mp hz
      exact shD_nd _
    · rw [eqv_nil] at h
      obtain ⟨⟨y, wy⟩, hpk⟩ : ∃ q, f[k]? = some q := by
        by_cases z : k < f.length
        · exact ⟨f[k], List.getElem?_eq_getElem z⟩
        · rw [List.drop_eq_nil_of_le (by omega)] at h; cases h
      have hkl : k < f.length := (List.getElem?_eq_some_iff.mp hpk).1
      have hdrop : f.drop k = (y, wy) :: f.drop (k + 1) := by
        rw [List.drop_eq_getElem_cons hkl]
        congr 1
        exact (List.getElem?_eq_some_iff.mp hpk).2
      have hmem : (y, wy) ∈ f := List.mem_of_getElem? hpk
      have few := bi.few inn hi
      refine ⟨fun ds2 M2 => ∃ fr f a b c e g, ds2 = [some (.adr p), some (.dat (.int i)), some (.dat (.int j)), some (.adr d), some (.adr fr), a, b, c, e, g] ∧ SI M M2 d fr f (k + 1) ∧ BI (ent S) m n i j f (k + 1), ?_, ?_⟩
      · rintro ds2 M2 ⟨fr, f, a, b, c, e, g, h1, h2, h3⟩
        exact ⟨μ - 1, by omega, fr, f, k + 1, a, b, c, e, g, h1, h2, h3, by omega⟩
      · refine xs_seq <| xs_set <| xp_op <| xp_var rfl <| xp_int <| xo_ixM (x := .dat (ndD y)) si.front (at_nat (j := 0) (by rw [hdrop]; rfl)) ?_
        refine xs_seq <| xs_set <| xp_slM (.c 1) .no <| xp_var rfl ⟨fr, _, rfl, si.front, fun fr2 hfr2 => ?_⟩
        have hf2 : M fr2 = none := si.sub.none hfr2
        have hd2 : d ≠ fr2 := fun z => by subst z; rw [si.found] at hfr2; cases hfr2
        refine xs_seq <| xs_asg <| xp_var rfl <| xg_tup rfl <| xgs_cons <| xg_name (vs := [6, 7]) (by decide) <| xgs_cons <| xg_name (by decide) <| xgs_nil ?_
        have si1 : SI M (M'.up fr2 (.lst (cutL (dats ((f.drop k).map fun q => ndD q.1)) (some 1) none))) d fr2 f (k + 1) := ⟨si.sub.new hf2, si.nd, hf2, hd2, by rw [MH.up_ne hd2]; exact si.found, by
          rw [MH.up_same, cut_tail, hdrop, List.map_cons, dats, List.map_cons, List.drop_succ_cons, List.drop_zero], si.lens⟩
        refine xs_seq <| xs_if <| xt_tst <| xp_op <| xp_var rfl <| xp_tup <| xa_cons <| xp_str <| xa_cons <| xp_var rfl <| xa_nil ⟨[_, _], rfl, (show 2 ≤ 100000 by decide), xo_eqD (.dat _) (.dat _) (shD.mono (shD_nd y) (by decide)) (shD.mono (shD_nd (.col j)) (by decide)) ⟨_, rfl, ?_⟩⟩
        rw [show PyData.eqv (ndD y) (.tuple [.str (Str.ofString "column"), .int (j : Nat)]) = decide (y = .col j) from eqv_nd y (.col j)]
        by_cases hy : y = .col j
        · refine yes (decide_eq_true hy) <| xs_ret <| xp_dget <| xp_var rfl <| xp_var rfl ⟨d, _, rfl, ?_, si1.sub, fin wy ?_ ?_⟩
          · rw [ndD_K, ← look_some bi.nd hmem]
            exact .t _ si1.found
          · exact bi.short inn (hy ▸ hpk)
          · have h1 : wy.length ≤ k := si.lens k _ hpk
            omega
        · refine no (decide_eq_false hy) <| xs_nil ?_
          refine xs_forW (Gd0 := fun _ => True) (l := nbrs (ent S) m n y) (enc := nbD) [8, 9] (fun t ds2 M2 => ∃ f2 e g, ds2 = [some (.adr p), some (.dat (.int i)), some (.dat (.int j)), some (.adr d), some (.adr fr2), some (.dat (ndD y)), some (.dat (kindD y)), some (.dat (.int (atN y))), e, g] ∧ SI M M2 d fr2 f2 (k + 1) ∧ MI (ent S) m n i f f2 k (y, wy) ((nbrs (ent S) m n y).take t)) ?_ (fun _ _ _ _ => trivial) ⟨f, _, _, rfl, si1, by rw [List.take_zero]; exact MI.beg bi⟩ ?_ ?_
          · exact xd_list <| xp_call <| xa_cons <| xp_var rfl <| xa_cons <| xp_var rfl <| xa_cons <| xp_var rfl <| xa_nil ⟨p, qs, S, m, n, y, hT.sub si1.sub, hS, way_in inn hi (bi.way _ _ hmem), rfl, rfl, rfl⟩
          · rintro t ⟨z, sp⟩ ds2 M2 ht ⟨f2, e, g, rfl, si2, mi⟩
            have hzn : (z, sp) ∈ nbrs (ent S) m n y := List.mem_of_getElem? ht
            have mi' := mi.next bi hpk (fr := []) hzn
            have htk : (nbrs (ent S) m n y).take t ++ [(z, sp)] = (nbrs (ent S) m n y).take (t + 1) := by rw [List.take_add_one, ht]; rfl
            rw [htk] at mi'
            have hyf : (y, wy) ∈ f2 := by
              obtain ⟨g0, e0, _⟩ := mi.pre
              rw [e0]; exact List.mem_append_left _ hmem
            have hk2 : k + 1 ≤ f2.length := by
              obtain ⟨g0, e0, _⟩ := mi.pre
              rw [e0, List.length_append]; omega
            have lenf : f2.length ≤ m + n := by
              have := nodup_le mi.nd (r := nodes m n) fun x hx => by
                obtain ⟨⟨x', px⟩, hp, rfl⟩ := List.mem_map.mp hx
                exact way_in inn hi (mi.way x' px hp)
              simp [keys, nodes] at this
              exact this
            refine xg_tup rfl <| xgs_cons <| xg_name (by decide) <| xgs_cons <| xg_name (by decide) <| xgs_nil ?_
            by_cases hz : z ∈ keys f2
            · obtain ⟨⟨z', wz⟩, hzm, ez⟩ := List.mem_map.mp hz
              cases ez
              unfold visit at mi'
              rw [if_pos hz] at mi'
              refine xs_if <| xt_tst <| xp_dni <| xp_var rfl <| xp_var rfl ⟨d, _, rfl, ndD_K z' ▸ KeyAt.t _ si2.found, _, rfl, no (by rw [look_some mi.nd hzm]; rfl) <| xs_nil ⟨f2, _, _, rfl, si2, mi'⟩⟩
            · unfold visit at mi'
              rw [if_neg hz] at mi'
              refine xs_if <| xt_tst <| xp_dni <| xp_var rfl <| xp_var rfl ⟨d, _, rfl, ndD_K z ▸ KeyAt.t _ si2.found, _, rfl, yes (by rw [look_none hz]; rfl) ?_⟩
              refine xs_seq <| xs_dput <| xp_op <| xp_dget <| xp_var rfl <| xp_var rfl ⟨d, .dat (wayD wy), rfl, ?_, xp_lst <| xa_cons <| xp_var rfl <| xa_nil ⟨[spD sp], rfl, (show 1 ≤ 100000 by decide), xo_cat ?_ <| xp_var rfl <| xp_var rfl ⟨d, M2.up d (.dT (encF (f2 ++ [(z, wy ++ [sp])]))), rfl, ?_, ?_⟩⟩⟩
              · rw [ndD_K, ← look_some mi.nd hyf]
                exact .t _ si2.found
              · have h1 := si.lens k _ hpk
                have h2 : wy.length ≤ k := h1
                rw [List.length_map]
                show wy.length + 1 ≤ 100000
                omega
              · rw [← put_new hz, ndD_K]
                have := KeyPut.t (M := M2) (p := d) (x := .dat (wayD (wy ++ [sp]))) (ndK z) si2.found (by unfold encF; rw [List.length_map]; omega)
                unfold wayD at this ⊢
                rw [List.map_append] at this ⊢
                exact this
              · refine xs_app <| xp_var rfl ⟨fr2, _, rfl, by rw [MH.up_ne (fun e => si2.ne e.symm)]; exact si2.front, xp_var rfl ⟨_, by rw [MH.up_ne (fun e => si2.ne e.symm)]; exact si2.front, ?_, f2 ++ [(z, wy ++ [sp])], _, _, rfl, ⟨(si2.sub.new si2.nd).new si2.nf, si2.nd, si2.nf, si2.ne, ?_, ?_, ?_⟩, mi'⟩⟩
                · rw [List.length_map, List.length_map, List.length_drop]; omega
                · rw [MH.up_ne si2.ne, MH.up_same]
                · rw [MH.up_same, List.drop_append_of_le_length hk2, List.map_append, dats, dats, List.map_append]; rfl
                · intro a q hq
                  by_cases za : a < f2.length
                  · rw [List.getElem?_append_left za] at hq
                    exact si2.lens a q hq
                  · obtain ⟨ha, e⟩ := List.getElem?_eq_some_iff.mp hq
                    rw [List.length_append, List.length_singleton] at ha
                    obtain rfl : a = f2.length := by omega
                    rw [List.getElem?_append_right (Nat.le_refl _), Nat.sub_self] at hq
                    cases hq
                    have h2 : wy.length ≤ k := si.lens k _ hpk
                    show (wy ++ [sp]).length ≤ f2.length
                    rw [List.length_append, List.length_singleton]; omega
          · rintro ds2 M2 ⟨f2, e, g, rfl, si2, mi⟩
            rw [List.take_length] at mi
            exact ⟨fr2, f2, _, _, _, _, _, rfl, si2, mi.fin bi hpk hy⟩
    · rw [eqv_nil] at h
      have hkl := bi.more inn hv
      rw [List.drop_eq_getElem_cons hkl] at h
      cases h
end
end K62
end
section
set_option Elab.async false
set_option linter.all false
set_option maxRecDepth 100000
set_option maxHeartbeats 4000000
set_option autoImplicit false
namespace K62
open PySem L2
/-! ### a table's cells -/
theorem ent_put {S : Tab} {m n : Nat} (h : Rect S m n) {i j : Nat} (hi : i < m) (hj : j < n) (v : Int) : Rect (put2 S i j v) m n ∧ ∀ a b, ent (put2 S i j v) a b = if (a, b) = (i, j) then v else ent S a b := by
  obtain ⟨r, hr, hl⟩ := h.at hi
  have er : S.getD i [] = r := by rw [List.getD_eq_getElem?_getD, hr]; rfl
  have hil : i < S.length := by rw [h.len]; exact hi
  refine ⟨⟨h.m0, h.m5, h.n0, h.n5, by unfold put2; rw [List.length_set]; exact h.len, fun x hx => ?_⟩, fun a b => ?_⟩
  · unfold put2 at hx
    rcases List.mem_or_eq_of_mem_set hx with hx | rfl
    · exact h.row x hx
    · rw [er, List.length_set]; exact hl
  · unfold ent put2
    rw [er]
    simp only [List.getD_eq_getElem?_getD]
    by_cases ha : i = a
    · subst ha
      rw [List.getElem?_set_self hil, Option.getD_some, hr, Option.getD_some]
      by_cases hb : j = b
      · subst hb
        rw [List.getElem?_set_self (by omega), if_pos rfl]; rfl
      · rw [List.getElem?_set_ne hb, if_neg fun e => hb (by injection e with _ e; exact e.symm)]
    · rw [List.getElem?_set_ne ha, if_neg fun e => ha (by injection e with e _; exact e.symm)]
def zeroT (m n : Nat) : Tab := List.replicate m (List.replicate n 0)
theorem zero_rect {S : Tab} {m n : Nat} (h : Rect S m n) : Rect (zeroT m n) m n := ⟨h.m0, h.m5, h.n0, h.n5, by unfold zeroT; rw [List.length_replicate], fun r hr => by
  unfold zeroT at hr
  rw [List.eq_of_mem_replicate hr, List.length_replicate]⟩
theorem far_none {α : Type} {k : Nat} {x : α} {a : Nat} (h : ¬ a < k) : (List.replicate k x)[a]? = none := List.getElem?_eq_none (by rw [List.length_replicate]; omega)
theorem zero_ent (m n a b : Nat) : ent (zeroT m n) a b = 0 := by
  unfold ent zeroT
  simp only [List.getD_eq_getElem?_getD]
  by_cases ha : a < m
  · rw [List.getElem?_replicate_of_lt ha, Option.getD_some]
    by_cases hb : b < n
    · rw [List.getElem?_replicate_of_lt hb]; rfl
    · rw [far_none hb]; rfl
  · rw [far_none ha]; rfl
theorem zipIdx_tab {S : Tab} {m n : Nat} (h : Rect S m n) : S.zipIdx = (List.range m).map fun i => (rowAt S n i, i) := by
  refine List.ext_getElem? fun i => ?_
  rw [List.getElem?_zipIdx, List.getElem?_map]
  by_cases hi : i < m
  · rw [List.getElem?_range hi, h.rowAt hi]; simp
  · rw [List.getElem?_eq_none (by rw [h.len]; omega), List.getElem?_eq_none (by rw [List.length_range]; omega)]; rfl
section
variable {P : Program} {w : World} {K : PySem.W.Frag} {mg : Str → Option Value} {base : Heap}
def p_joined : SpP := fun xs M Φ => ∃ (S : Tab) (m n : Nat), Rect S m n ∧ Ones S ∧ xs = [.dat (tabD S)] ∧ ∀ t p l qs Sg M', Sub M M' → M' t = some (.tup [.adr p, .adr l]) → TabQ M' p qs Sg → Rect Sg m n → (∀ a b, ent Sg a b = jP (jrun (ent S) m n (spotsOf m n)).js a b) →
  M' l = some (.lst (dats ((jrun (ent S) m n (spotsOf m n)).left.map spD))) → l ≠ p → l ∉ qs → M t = none → M p = none → M l = none → (∀ q ∈ qs, M q = none) → Φ (.adr t) M'
/-- between two turns -/
structure JW (C : Addr) (M M' : MH) (m n : Nat) (x dx p l : Addr) (qs : List Addr) (Sg : Tab) (st : JS) : Prop where
  sub : Sub M M'
  nx : M x = none
  np : M p = none
  nl : M l = none
  nq : ∀ q ∈ qs, M q = none
  lp : l ≠ p
  lq : l ∉ qs
  webs : M' x = some (websM C dx st.lr st.lc)
  tab : TabQ M' p qs Sg
  rect : Rect Sg m n
  ents : ∀ a b, ent Sg a b = jP st.js a b
  left : M' l = some (.lst (dats (st.left.map spD)))
  lr : st.lr.length = m
  lc : st.lc.length = n
theorem JW.xne {C : Addr} {M M' : MH} {m n : Nat} {x dx p l : Addr} {qs : List Addr} {Sg : Tab} {st : JS} (h : JW C M M' m n x dx p l qs Sg st) : x ≠ p ∧ x ≠ l ∧ x ∉ qs := by
  refine ⟨fun e => ?_, fun e => ?_, fun e => ?_⟩
  · have h1 := h.webs; rw [e, h.tab.top] at h1; cases h1
  · have h1 := h.webs; rw [e, h.left] at h1; cases h1
  · obtain ⟨i, hi⟩ := List.mem_iff_getElem?.mp e
    have hl : i < Sg.length := by rw [← h.tab.len]; exact (List.getElem?_eq_some_iff.mp hi).1
    have h1 := h.webs
    rw [h.tab.row i x _ hi (List.getElem?_eq_getElem hl)] at h1
    cases h1
theorem jleft_le (T : Nat → Nat → Int) : ∀ (l : List Spot) (st : JS), (l.foldl (jstep T) st).left.length ≤ st.left.length + l.length
  | [], _ => Nat.le_refl _
  | s :: l, st => by
    have h := jleft_le T l (jstep T st s)
    have h2 : (jstep T st s).left.length ≤ st.left.length + 1 := by
      unfold jstep
      split
      · split
        · rw [List.length_append]; exact Nat.le_refl _
        · exact Nat.le_succ _
      · exact Nat.le_succ _
    rw [List.foldl_cons, List.length_cons]; omega
theorem spots_len (i n : Nat) : (spotsOf i n).length = i * n := by
  induction i with
  | zero => simp [spotsOf]
  | succ i ih =>
    unfold spotsOf at ih ⊢
    rw [List.range_succ, List.flatMap_append, List.length_append, ih, List.flatMap_singleton, rowSpots, List.length_map, List.length_range, Nat.succ_mul]
theorem getD_some {l : List Nat} {i x : Nat} (h : l[i]? = some x) : l.getD i 0 = x := by rw [List.getD_eq_getElem?_getD, h]; rfl
theorem ones_ent {S : Tab} (h : Ones S) (a b : Nat) : ent S a b = 0 ∨ ent S a b = 1 := by
  unfold ent
  simp only [List.getD_eq_getElem?_getD]
  cases e : S[a]? with
  | none => exact .inl rfl
  | some r =>
    rw [Option.getD_some]
    cases e2 : r[b]? with
    | none => exact .inl rfl
    | some x => exact h r (List.mem_of_getElem? e) x (List.mem_of_getElem? e2)
theorem ok_joined_signs (T : Txt w K mg) : FnOk P w K mg base CX0 3 T.d_joined_signs.f T.d_joined_signs.fd ["table"] (spE K p_joined) := by
  refine fn_ok T.d_joined_signs.F sc_joined_signs (fun xs M Φ ⟨_, _, _, _, _, h, _⟩ => by rw [h]; rfl) fun cdv A outer s H E hr => ?_
  have nd := sc_joined_signs.nd
  refine ⟨_, (pss_cons (ps_set (i := 1) nd rfl (Or.inl rfl) (pe_make T.mkW (ok_Webs___init__ T) (hr.mono (by first | decide | omega)) rfl T.mW T.bI .nil pass0 (pa_cons (pe_callB (k_len (K := K) rfl) (by rfl) T.z_len (by decide +kernel) (pa_cons (pv 0) pa_nil)) (pa_cons (pe_callB (k_len (K := K) rfl) (by rfl) T.z_len (by decide +kernel) (pa_cons (pe_ix (k_ix (K := K) rfl) (pv 0) pe_int (fun _ _ => rfl)) pa_nil)) pa_nil))))
      (pss_cons (ps_setLc (i := 2) (own := [("row", 5)]) rfl nd rfl rfl (sw_true rfl rfl rfl (by decide +kernel)) (kiL (K := K) rfl (pi_list (pv 0))) (blkOk_by (by kernel_rfl)) (fun _ _ _ _ _ => (pg_name (i := 5) nd rfl (Or.inl rfl))) (fun _ _ _ _ _ => pts_nil) (fun _ _ _ _ _ => (pe_lc (own := [("entry", 7)]) rfl nd (kiL (K := K) rfl (pi_list (pv 5))) (blkOk_by (by kernel_rfl)) (fun _ _ _ _ _ => (pg_name (i := 7) nd rfl (Or.inl rfl))) (fun _ _ _ _ _ => pts_nil) (fun _ _ _ _ _ => pe_int))))
      (pss_cons (ps_set (i := 3) nd rfl (Or.inl rfl) (pe_lst pa_nil))
      (pss_cons (ps_for PassesOwn.never rfl (kiE (K := K) rfl (pi_enum (by rfl) T.z_enumerate (pa_cons (pv 0) pa_nil))) (kgT (K := K) rfl (pg_tup (n := 2) rfl (pgs_cons (pg_name (i := 4) nd rfl (Or.inl rfl)) (pgs_cons (pg_name (i := 5) nd rfl (Or.inl rfl)) pgs_nil)))) (pss_one (ps_for PassesOwn.never rfl (kiE (K := K) rfl (pi_enum (by rfl) T.z_enumerate (pa_cons (pv 5) pa_nil))) (kgT (K := K) rfl (pg_tup (n := 2) rfl (pgs_cons (pg_name (i := 6) nd rfl (Or.inl rfl)) (pgs_cons (pg_name (i := 7) nd rfl (Or.inl rfl)) pgs_nil)))) (pss_one (ps_if (PW.pt (pw_and (pt_cmpR (k_eq (K := K) rfl (u64 hr)) (pv 7) pe_int (nomark _)) (pw_and1 (pt_val (pe_meth (pv 1) T.clW T.meJ (ok_Webs_join T) (hr.mono (by first | decide | omega)) T.bJ .nil pass0 (pa_cons (pv 4) (pa_cons (pv 6) pa_nil))))))) (pss_one (ps_asg pe_int (pg_sub (pe_ix (k_ix (K := K) rfl) (pv 2) (pv 4) (fun _ _ => rfl)) (pv 6) set_list))) (pss_one (ps_if (pt_cmpR (k_eq (K := K) rfl (u64 hr)) (pv 7) pe_int (nomark _)) (pss_one (ps_expr (kbm (K := K) rfl (pe_bm PySem.F.plainAttrs_list PySem.F.slot_list_append PySem.F.type_list_append mt_append (pv 3) (pa_cons (pe_tup (pa_cons (pv 4) (pa_cons (pv 6) pa_nil))) pa_nil))))) pss_nil)))))))
      (pss_one (ps_ret (pe_tup (pa_cons (pv 2) (pa_cons (pv 3) pa_nil))))))))), ?_⟩
  rintro xs M Φ ⟨S, m, n, hS, h01, rfl, fin⟩
  have m5 := hS.m5
  have n5 := hS.n5
  refine xs_seq <| xs_set <| xp_make <| xa_cons <| xp_tall hS rfl <| xa_cons <| xp_wide hS rfl <| xa_nil (fun x dx hx => ?_)
  show p_init _ _ _ _
  refine ⟨x, dx, m, n, by omega, by omega, MH.up_same, rfl, rfl, ?_⟩
  have eM : (M.up x (.ins T.CW dx [])).up x (websM T.CW dx (List.range m) ((List.range n).map fun i => m + i)) = M.up x (websM T.CW dx (List.range m) ((List.range n).map fun i => m + i)) := by
    funext b; unfold MH.up; by_cases z : b = x
    · rw [if_pos z, if_pos z]
    · rw [if_neg z, if_neg z, if_neg z]
  rw [eM]
  refine xs_seq <| xs_set ?_
  refine xp_mkT (Gd0 := fun _ => True) (l := S) (enc := rowD) (fun r => List.replicate n 0) (xd_var rfl) (fun _ _ => trivial) (by rw [hS.len]; omega) ?_ fun p qs M1 sub1 hp hqs hT => ?_
  · intro i r M' hr sub
    refine xg_name (by decide) ⟨rfl, ?_⟩
    refine xp_mapWM (Gd0 := fun _ => True) (l := r) (enc := PyData.int) (fun _ => .int 0) (xd_var rfl) trivial (by rw [hS.row r (List.mem_of_getElem? hr)]; omega) (fun j v hv => xg_name (by decide) ⟨rfl, xp_int ⟨rfl, rfl⟩⟩) fun q hq => ⟨q, rfl, hq, ?_⟩
    rw [rowM, nums, List.map_replicate, List.map_const', hS.row r (List.mem_of_getElem? hr)]
  · have hzero : S.map (fun _ => List.replicate n (0 : Int)) = zeroT m n := by rw [List.map_const', hS.len]; rfl
    rw [hzero] at hT
    refine xs_seq <| xs_set <| xp_lstM <| xa_nil ⟨Nat.zero_le _, fun l hl => ?_⟩
    have subx : Sub M M1 := (Sub.up hx).trans sub1
    have un : ∀ {z : Addr}, (M.up x (websM T.CW dx (List.range m) ((List.range n).map fun i => m + i))) z = none → M z = none := fun h => (Sub.up hx).none h
    have hx1 := sub1 x _ MH.up_same
    have jw0 : JW T.CW M (M1.up l (.lst [])) m n x dx p l qs (zeroT m n) (jbeg m n) := by
      refine ⟨subx.new (subx.none hl), hx, un hp, subx.none hl, fun q hq => un (hqs q hq), fun e => (by subst e; rw [hT.top] at hl; cases hl), fun e => hT.inM (.inr e) hl, ?_, hT.new hl, zero_rect hS, fun a b => (by rw [zero_ent]; rfl), MH.up_same, by simp [jbeg], by simp [jbeg]⟩
      rw [MH.up_ne fun e => by subst e; rw [hx1] at hl; cases hl]
      exact hx1
    refine xs_seq (xs_forW (Gd0 := fun _ => True) (l := S.zipIdx) (enc := fun z => .tuple [.int (z.2 : Nat), rowD z.1]) [4, 5] (fun i ds' M' => ∃ Sg a b c d, ds' = [some (.dat (tabD S)), some (.adr x), some (.adr p), some (.adr l), a, b, c, d] ∧ JW T.CW M M' m n x dx p l qs Sg (jrun (ent S) m n ((List.range i).flatMap fun i => rowSpots n i))) ?_ (fun _ _ _ _ => trivial) ⟨_, _, _, _, _, rfl, jw0⟩ ?_ ?_)
    · rw [← enumD_map rowD]
      exact xd_enum <| xa_cons <| xp_var rfl <| xa_nil ⟨rfl, rfl⟩
    · rintro i ⟨r, i'⟩ ds' M' hi ⟨Sg, a, b, c, d, rfl, jw⟩
      rw [zipIdx_tab hS, List.getElem?_map] at hi
      obtain ⟨hi', e⟩ : i < m ∧ (rowAt S n i, i) = (r, i') := by
        by_cases z : i < m
        · rw [List.getElem?_range z] at hi; exact ⟨z, Option.some.inj hi⟩
        · rw [List.getElem?_eq_none (by rw [List.length_range]; omega)] at hi; cases hi
      cases e
      refine xg_tup rfl <| xgs_cons <| xg_name (by decide) <| xgs_cons <| xg_name (by decide) <| xgs_nil ?_
      refine xs_forW (Gd0 := fun _ => True) (l := (rowAt S n i).zipIdx) (enc := fun z => .tuple [.int (z.2 : Nat), .int z.1]) [6, 7] (fun j ds' M' => ∃ Sg c d, ds' = [some (.dat (tabD S)), some (.adr x), some (.adr p), some (.adr l), some (.dat (.int i)), some (.dat (rowD (rowAt S n i))), c, d] ∧ JW T.CW M M' m n x dx p l qs Sg (((List.range j).map fun j => (i, j)).foldl (jstep (ent S)) (jrun (ent S) m n ((List.range i).flatMap fun i => rowSpots n i)))) ?_ (fun _ _ _ _ => trivial) ⟨Sg, _, _, rfl, jw⟩ ?_ ?_
      · rw [← enumD_map PyData.int]
        exact xd_enum <| xa_cons <| xp_var rfl <| xa_nil ⟨rfl, rfl⟩
      · rintro j ⟨v, j'⟩ ds' M2 hj ⟨Sg, c, d, rfl, jw⟩
        rw [zipIdx_row, List.getElem?_map] at hj
        obtain ⟨hj', e⟩ : j < n ∧ (ent S i j, j) = (v, j') := by
          by_cases z : j < n
          · rw [List.getElem?_range z] at hj; exact ⟨z, Option.some.inj hj⟩
          · rw [List.getElem?_eq_none (by rw [List.length_range]; omega)] at hj; cases hj
        cases e
        rw [List.range_succ, List.map_append, List.foldl_append]
        have few : (((List.range j).map fun j => (i, j)).foldl (jstep (ent S)) (jrun (ent S) m n ((List.range i).flatMap fun i => rowSpots n i))).left.length < 100000 := by
          have a1 := jleft_le (ent S) ((List.range j).map fun j => (i, j)) (jrun (ent S) m n (spotsOf i n))
          have a2 := jleft_le (ent S) (spotsOf i n) (jbeg m n)
          rw [spots_len] at a2
          have a3 : i * n ≤ 5 * 5 := Nat.mul_le_mul (by omega) n5
          rw [List.length_map, List.length_range] at a1
          refine Nat.lt_of_le_of_lt a1 ?_
          have a4 : (jbeg m n).left.length = 0 := rfl
          unfold jrun
          omega
        generalize ((List.range j).map fun j => (i, j)).foldl (jstep (ent S)) (jrun (ent S) m n ((List.range i).flatMap fun i => rowSpots n i)) = st at jw few
        show Xg K _ _ _ _ _ fun ds2 M3 => Xs K _ ds2 M3 _
        obtain ⟨x1, x2, x3⟩ := jw.xne
        have li : i < st.lr.length := by rw [jw.lr]; exact hi'
        have lj : j < st.lc.length := by rw [jw.lc]; exact hj'
        refine xg_tup rfl <| xgs_cons <| xg_name (by decide) <| xgs_cons <| xg_name (by decide) <| xgs_nil ?_
        by_cases h1 : ent S i j = 1
        · refine xs_if <| xt_and <| xt_tst <| xp_op <| xp_var rfl <| xp_int <| xo_eqD (.dat _) (.dat _) (shD.int _ _) (shD.int _ _) ⟨_, rfl, yes (by rw [eqv_int]; exact decide_eq_true h1) ?_⟩
          refine xt_B <| xp_meth <| xp_var rfl ⟨x, dx, _, rfl, jw.webs, rfl, xa_cons <| xp_var rfl <| xa_cons <| xp_var rfl <| xa_nil ?_⟩
          refine ⟨x, dx, st.lr, st.lc, i, j, st.lr[i], st.lc[j], by rw [jw.lr]; omega, by rw [jw.lc]; omega, List.getElem?_eq_getElem li, List.getElem?_eq_getElem lj, jw.webs, rfl, fun z => ⟨_, rfl, no rfl ?_⟩, fun z => ⟨_, rfl, yes rfl ?_⟩⟩
          · refine xs_if <| xt_tst <| xp_op <| xp_var rfl <| xp_int <| xo_eqD (.dat _) (.dat _) (shD.int _ _) (shD.int _ _) ⟨_, rfl, yes (by rw [eqv_int]; exact decide_eq_true h1) ?_⟩
            refine xs_app <| xp_var rfl ⟨l, _, rfl, jw.left, xp_tup <| xa_cons <| xp_var rfl <| xa_cons <| xp_var rfl <| xa_nil ⟨[_, _], rfl, (show 2 ≤ 100000 by decide), _, jw.left, by rw [List.length_map, List.length_map]; exact few, Sg, _, _, rfl, ?_⟩⟩
            have es : jstep (ent S) st (i, j) = { st with left := st.left ++ [(i, j)] } := by
              unfold jstep
              rw [if_pos h1, if_pos (by rw [getD_some (List.getElem?_eq_getElem lj), getD_some (List.getElem?_eq_getElem li)]; exact z)]
            show JW _ _ _ _ _ _ _ _ _ _ _ (jstep (ent S) st (i, j))
            rw [es]
            exact ⟨jw.sub.new jw.nl, jw.nx, jw.np, jw.nl, jw.nq, jw.lp, jw.lq, by rw [MH.up_ne x2]; exact jw.webs, jw.tab.up jw.lp jw.lq, jw.rect, jw.ents, by rw [MH.up_same, List.map_append, dats, dats, List.map_append]; rfl, jw.lr, jw.lc⟩
          · have es : jstep (ent S) st (i, j) = ⟨relab st.lc[j] st.lr[i] st.lr, relab st.lc[j] st.lr[i] st.lc, st.js ++ [(i, j)], st.left⟩ := by
              unfold jstep
              rw [if_pos h1, if_neg (by rw [getD_some (List.getElem?_eq_getElem lj), getD_some (List.getElem?_eq_getElem li)]; exact z), getD_some (List.getElem?_eq_getElem lj), getD_some (List.getElem?_eq_getElem li)]; rfl
            obtain ⟨hrp, hep⟩ := ent_put jw.rect hi' hj' 1
            obtain ⟨r, hr, hrl⟩ := jw.rect.at hi'
            obtain ⟨q, hq, hm⟩ := jw.tab.at hr
            have tab2 := jw.tab.up (z := x) (o := websM T.CW dx (relab st.lc[j] st.lr[i] st.lr) (relab st.lc[j] st.lr[i] st.lc)) x1 x3
            have hqm := List.mem_of_getElem? hq
            refine xs_asg <| xp_int <| xg_setL (vs := []) <| xp_op <| xp_var rfl <| xp_var rfl <| xo_ixM (x := .adr q) tab2.top (at_nat (by rw [List.getElem?_map, hq]; rfl)) <| xp_var rfl ⟨q, _, j, rfl, rfl, tab2.row i q r hq hr, by rw [List.length_map, List.length_map, hrl]; exact hj', put2 Sg i j 1, _, _, rfl, ?_⟩
            show JW _ _ _ _ _ _ _ _ _ _ _ (jstep (ent S) st (i, j))
            rw [es]
            refine ⟨(jw.sub.new jw.nx).new (jw.nq q hqm), jw.nx, jw.np, jw.nl, jw.nq, jw.lp, jw.lq, ?_, tab2.put 1 hq hr, hrp, fun a b => ?_, ?_, by show (relab _ _ _).length = m; unfold relab; rw [List.length_map]; exact jw.lr, by show (relab _ _ _).length = n; unfold relab; rw [List.length_map]; exact jw.lc⟩
            · rw [MH.up_ne fun e => x3 (by rw [e]; exact hqm), MH.up_same]
            · rw [hep, jw.ents]
              unfold jP
              by_cases e : (a, b) = (i, j)
              · rw [if_pos e, e, if_pos (List.mem_append_right _ (List.mem_singleton.mpr rfl))]
              · rw [if_neg e]
                by_cases e2 : (a, b) ∈ st.js
                · rw [if_pos e2, if_pos (List.mem_append_left _ e2)]
                · rw [if_neg e2, if_neg]
                  intro h
                  rcases List.mem_append.mp h with h | h
                  · exact e2 h
                  · exact e (List.mem_singleton.mp h)
            · rw [MH.up_ne fun e => jw.lq (by rw [e]; exact hqm), MH.up_ne fun e => x2 e.symm]
              exact jw.left
        · refine xs_if <| xt_and <| xt_tst <| xp_op <| xp_var rfl <| xp_int <| xo_eqD (.dat _) (.dat _) (shD.int _ _) (shD.int _ _) ⟨_, rfl, no (by rw [eqv_int]; exact decide_eq_false h1) ?_⟩
          refine no rfl ?_
          refine xs_if <| xt_tst <| xp_op <| xp_var rfl <| xp_int <| xo_eqD (.dat _) (.dat _) (shD.int _ _) (shD.int _ _) ⟨_, rfl, no (by rw [eqv_int]; exact decide_eq_false h1) <| xs_nil ⟨Sg, _, _, rfl, ?_⟩⟩
          have es : jstep (ent S) st (i, j) = st := by unfold jstep; rw [if_neg h1]
          show JW _ _ _ _ _ _ _ _ _ _ _ (jstep (ent S) st (i, j))
          rw [es]; exact jw
      · rintro ds' M2 ⟨Sg, c, d, rfl, jw⟩
        refine ⟨Sg, _, _, _, _, rfl, ?_⟩
        rw [List.range_succ, List.flatMap_append]
        rw [List.length_zipIdx, rowAt_len] at jw
        unfold jrun at jw ⊢
        rw [List.foldl_append, List.flatMap_singleton]
        exact jw
    · rintro ds' M' ⟨Sg, a, b, c, d, rfl, jw⟩
      rw [List.length_zipIdx, hS.len] at jw
      refine xs_ret <| xp_tupM <| xa_cons <| xp_var rfl <| xa_cons <| xp_var rfl <| xa_nil ⟨(show 2 ≤ 100000 by decide), fun t ht => ?_⟩
      have ht0 := jw.sub.none ht
      refine fin t p l qs Sg _ (jw.sub.new ht0) MH.up_same (jw.tab.new ht) jw.rect jw.ents ?_ jw.lp jw.lq ht0 jw.np jw.nl jw.nq
      rw [MH.up_ne fun e => by subst e; rw [jw.left] at ht; cases ht]
      exact jw.left
end
end K62
end
section
set_option Elab.async false
set_option linter.all false
set_option maxRecDepth 100000
set_option maxHeartbeats 4000000
set_option autoImplicit false
namespace K62
open PySem L2
/-! ### facts for the loop -/
theorem Way.spots {P : Nat → Nat → Int} {x y : Nd} {w : List Spot} (h : Way P x y w) : ∀ s ∈ w, P s.1 s.2 ≠ 0 := by
  induction h with
  | nil => intro s hs; cases hs
  | rc _ e ih =>
    intro s hs
    rcases List.mem_append.mp hs with hs | hs
    · exact ih s hs
    · obtain rfl := List.mem_singleton.mp hs; exact e
  | cr _ e ih =>
    intro s hs
    rcases List.mem_append.mp hs with hs | hs
    · exact ih s hs
    · obtain rfl := List.mem_singleton.mp hs; exact e
theorem eqv_sp (s t : Spot) : PyData.eqv (spD s) (spD t) = decide (s = t) := by
  have e : PyData.eqv (spD s) (spD t) = (PyData.eqv (.int s.1) (.int t.1) && (PyData.eqv (.int s.2) (.int t.2) && true)) := rfl
  rw [e, eqv_nat, eqv_nat, Bool.and_true]
  obtain ⟨a, b⟩ := s
  obtain ⟨c, d⟩ := t
  by_cases h1 : a = c
  · by_cases h2 : b = d
    · subst h1 h2; simp
    · have : ¬ ((a, b) = (c, d)) := fun e => h2 (by injection e)
      simp [h2]
  · have : ¬ ((a, b) = (c, d)) := fun e => h1 (by injection e)
    simp [h1]
theorem shD_sp (s : Spot) : shD 1 (spD s) := shD.tup (k := 0) fun d hd => by
  rcases List.mem_cons.mp hd with rfl | hd
  · exact shD.int _ _
  · obtain rfl := List.mem_singleton.mp hd
    exact shD.int _ _
theorem shD_sps (l : List Spot) : shD 64 (.list (l.map spD)) := shD.mono (k := 1 + 1) (shD.list fun d hd => by
  obtain ⟨s, _, rfl⟩ := List.mem_map.mp hd
  exact shD_sp s) (by decide)
theorem erase_at {l : List Spot} {s : Spot} {j : Nat} (h : l[j]? = some s) (hn : l.Nodup) : l.eraseIdx j = l.erase s := by
  induction l generalizing j with
  | nil => cases h
  | cons a l ih =>
    cases j with
    | zero =>
      cases h
      rw [List.eraseIdx_cons_zero, List.erase_cons_head]
    | succ j =>
      have hs : l[j]? = some s := h
      have ne : a ≠ s := fun e => (List.nodup_cons.mp hn).1 (e ▸ List.mem_of_getElem? hs)
      rw [List.eraseIdx_cons_succ, List.erase_cons_tail (by simpa using ne), ih hs (List.nodup_cons.mp hn).2]
theorem ent_of {S : Tab} {m n : Nat} (h : Rect S m n) {i j : Nat} (hi : i < m) (hj : j < n) : ∃ r, S[i]? = some r ∧ r[j]? = some (ent S i j) ∧ j < r.length := by
  obtain ⟨r, hr, hv⟩ := h.cell hi hj
  exact ⟨r, hr, hv, (List.getElem?_eq_some_iff.mp hv).1⟩
theorem ones_inn {S : Tab} {m n : Nat} (h : Rect S m n) : ∀ a b, ent S a b = 1 → a < m ∧ b < n := fun a b e => h.inn a b (by rw [e]; decide)
theorem TabM.sub {M M' : MH} {P : Addr} {nm : Str} (h : TabM M P nm) (e : Sub M M') : TabM M' P nm := by
  obtain ⟨ps, h1, h2, h3⟩ := h
  exact ⟨ps, e _ _ h1, h2, fun pos cv q => let ⟨c, e1, e2⟩ := h3 pos cv q; ⟨c, e1, e _ _ e2⟩⟩
theorem TabM.put {M : MH} {P : Addr} {nm : Str} (h : TabM M P nm) {z : Addr} {m o : MO} (hz : M z = some m) (hm : ∀ u, m ≠ .raw u) : TabM (M.up z o) P nm := by
  obtain ⟨ps, h1, h2, h3⟩ := h
  have ne : ∀ {b : Addr} {u : HO}, M b = some (.raw u) → b ≠ z := fun e q => by
    rw [q, hz] at e
    exact hm _ (Option.some.inj e)
  refine ⟨ps, by rw [MH.up_ne (ne h1)]; exact h1, h2, fun pos cv q => ?_⟩
  obtain ⟨c, e1, e2⟩ := h3 pos cv q
  exact ⟨c, e1, by rw [MH.up_ne (ne e2)]; exact e2⟩
theorem SubP.refl (P : Addr) (M : MH) : SubP P M M := fun _ _ _ h => h
theorem SubP.trans {P : Addr} {M M' M2 : MH} (a : SubP P M M') (b : SubP P M' M2) : SubP P M M2 := fun p o h e => b p o h (a p o h e)
theorem Sub.p {P : Addr} {M M' : MH} (h : Sub M M') : SubP P M M' := fun b o _ e => h b o e
theorem SubP.new {P : Addr} {M M' : MH} (h : SubP P M M') {z : Addr} {o : MO} (hz : M z = none) : SubP P M (M'.up z o) := fun b u hb e => by
  rw [MH.up_ne (MH.ne e hz)]; exact h b u hb e
abbrev lamN : Str := (("forced_signs" : Str) ++ ".<locals>.") ++ "<lambda>"
/-- the signs that are forced, and that they alone stand -/
structure Forced (S F : Tab) (m n : Nat) : Prop where
  rect : Rect F m n
  sgn : Sgn (ent S) (ent F)
  stood : ∀ s ∈ (jrun (ent S) m n (spotsOf m n)).js, ent F s.1 s.2 = 1
  alone : ∀ U, Sgn (ent S) U → GH m n U → (∀ s ∈ (jrun (ent S) m n (spotsOf m n)).js, U s.1 s.2 = 1) → ∀ a b, U a b = ent F a b
section
variable {P : Program} {w : World} {K : PySem.W.Frag} {mg : Str → Option Value} {base : Heap}
def p_forced (pF : Addr) : SpP := fun xs M Φ => ∃ (S : Tab) (m n : Nat), Rect S m n ∧ Ones S ∧ TabM M pF lamN ∧ xs = [.dat (tabD S)] ∧ ∀ F M', Forced S F m n → TabM M' pF lamN → SubP pF M M' → Φ (.dat (tabD F)) M'
/-- between two turns -/
structure FW (pF : Addr) (M M' : MH) (S : Tab) (m n : Nat) (p l : Addr) (qs : List Addr) (Sg : Tab) (left : List Spot) : Prop where
  sub : SubP pF M M'
  tabM : TabM M' pF lamN
  np : M p = none
  nl : M l = none
  nq : ∀ q ∈ qs, M q = none
  lp : l ≠ p
  lq : l ∉ qs
  tab : TabQ M' p qs Sg
  rect : Rect Sg m n
  lft : M' l = some (.lst (dats (left.map spD)))
  inv : FInv (ent S) m n (jrun (ent S) m n (spotsOf m n)).js left (ent Sg)
theorem FW.few {pF : Addr} {M M' : MH} {S : Tab} {m n : Nat} {p l : Addr} {qs : List Addr} {Sg : Tab} {left : List Spot} (h : FW pF M M' S m n p l qs Sg left) (hS : Rect S m n) : left.length ≤ 25 := by
  have h1 := nodup_le (r := spotsOf m n) h.inv.nd fun s hs => mem_spots.mpr (ones_inn hS _ _ (h.inv.out s hs).1)
  rw [spots_len] at h1
  exact Nat.le_trans h1 (Nat.mul_le_mul hS.m5 hS.n5)
theorem ok_forced_signs (T : Txt w K mg) (tab : LamX.TabB base mg T.cF T.pF) : FnOk P w K mg base CX0 4 T.d_forced_signs.f T.d_forced_signs.fd ["table"] (spE K (p_forced T.pF)) := by
  refine fn_okC T.xF sc_forced_signs (fun xs M Φ ⟨_, _, _, _, _, _, h, _⟩ => by rw [h]; rfl) fun A outer s H E hr => ?_
  have nd := sc_forced_signs.nd
  refine ⟨_, (pss_cons (ps_asg (pe_call (ok_joined_signs T) (hr.mono (by first | decide | omega)) rfl T.d_joined_signs.m T.d_joined_signs.F.kp T.d_joined_signs.b .nil pass0 (pa_cons (pv 0) pa_nil)) (kgT (K := K) rfl (pg_tup (n := 2) rfl (pgs_cons (pg_name (i := 1) nd rfl (Or.inr rfl)) (pgs_cons (pg_name (i := 2) nd rfl (Or.inl rfl)) pgs_nil)))))
      (pss_cons (ps_while PassesOwn.never (pt_cmpR (k_ne (K := K) rfl (u64 hr)) (pv 2) (pe_lst pa_nil) (nomark _)) (pss_cons (ps_setLc (i := 3) (own := [("i", 7), ("j", 8)]) rfl nd rfl rfl (sw_true rfl rfl rfl (by decide +kernel)) (kiL (K := K) rfl (pi_list (pv 2))) (blkOk_by (by kernel_rfl)) (fun _ _ _ _ _ => (kgT (K := K) rfl (pg_tup (n := 2) rfl (pgs_cons (pg_name (i := 7) nd rfl (Or.inl rfl)) (pgs_cons (pg_name (i := 8) nd rfl (Or.inl rfl)) pgs_nil))))) (fun _ _ _ _ _ => pts_nil) (fun _ _ _ _ _ => (pe_tup (pa_cons (pe_call (ok_way_between T) (hr.mono (by first | decide | omega)) rfl T.d_way_between.m T.d_way_between.F.kp T.d_way_between.b .nil pass0 (pa_cons (pv 1) (pa_cons (pv 7) (pa_cons (pv 8) pa_nil)))) (pa_cons (pe_tup (pa_cons (pv 7) (pa_cons (pv 8) pa_nil))) pa_nil)))))
      (pss_cons (ps_asg (kmin (K := K) rfl (pe_minKey (k := 0) (N := ["one"]) (hr.mono (by decide)) (by rfl) T.z_min tab rfl ⟨rfl, rfl, rfl, by decide +kernel, rfl, by decide +kernel, by decide +kernel⟩ (by decide +kernel) rfl (fun _ _ _ _ _ => rfl) (fun _ _ _ _ _ _ _ _ => (pe_callB (k_len (K := K) rfl) (by rfl) T.z_len (by decide +kernel) (pa_cons (pe_ix (k_ix (K := K) rfl) (pv 0) pe_int (fun _ _ => rfl)) pa_nil))) (pa_cons (pv 3) pa_nil))) (kgT (K := K) rfl (pg_tup (n := 2) rfl (pgs_cons (pg_name (i := 4) nd rfl (Or.inl rfl)) (pgs_cons (pg_name (i := 5) nd rfl (Or.inl rfl)) pgs_nil)))))
      (pss_cons (ps_set (i := 6) nd rfl (Or.inl rfl) (pe_callB (k_sum (K := K) rfl rfl) (by rfl) T.z_sum (by decide +kernel) (pa_cons (pe_lc (own := [("a", 9), ("b", 10)]) rfl nd (kiL (K := K) rfl (pi_list (pv 4))) (blkOk_by (by kernel_rfl)) (fun _ _ _ _ _ => (kgT (K := K) rfl (pg_tup (n := 2) rfl (pgs_cons (pg_name (i := 9) nd rfl (Or.inl rfl)) (pgs_cons (pg_name (i := 10) nd rfl (Or.inl rfl)) pgs_nil))))) (fun _ _ _ _ _ => pts_nil) (fun _ _ _ _ _ => (pe_ix (k_ix (K := K) rfl) (pe_ix (k_ix (K := K) rfl) (pv 1) (pv 9) (fun _ _ => rfl)) (pv 10) (fun _ _ => rfl)))) pa_nil)))
      (pss_cons (ps_asg pe_int (pg_sub (pe_ix (k_ix (K := K) rfl) (pv 1) (pe_ix (k_ix (K := K) rfl) (pv 5) pe_int (fun _ _ => rfl)) (fun _ _ => rfl)) (pe_ix (k_ix (K := K) rfl) (pv 5) pe_int (fun _ _ => rfl)) set_list))
      (pss_cons (ps_if (pt_cmpR (k_ne (K := K) rfl (u64 hr)) (pe_op op_mod (pe_op op_add (pv 6) pe_int) pe_int) pe_int (nomark _)) (pss_one (ps_asg (pe_un un_neg pe_int) (pg_sub (pe_ix (k_ix (K := K) rfl) (pv 1) (pe_ix (k_ix (K := K) rfl) (pv 5) pe_int (fun _ _ => rfl)) (fun _ _ => rfl)) (pe_ix (k_ix (K := K) rfl) (pv 5) pe_int (fun _ _ => rfl)) set_list))) pss_nil)
      (pss_one (ps_expr (kbm (K := K) rfl (pe_bm PySem.F.plainAttrs_list PySem.F.slot_list_remove PySem.F.type_list_remove (k_remD (K := K) rfl (u65 hr)) (pv 2) (pa_cons (pv 5) pa_nil)))))))))))
      (pss_one (ps_ret (pv 1))))), ?_⟩
  rintro xs M Φ ⟨S, m, n, hS, h01, hTM, rfl, fin⟩
  have m5 := hS.m5
  have n5 := hS.n5
  have J := JInv.all (ent S) m n
  refine xs_seq <| xs_asg (vs := [1, 2]) <| xp_call <| xa_cons <| xp_var rfl <| xa_nil ⟨S, m, n, hS, h01, rfl, fun t p l qs Sg M1 sub ht hT hR he hl lp lq nt np nl nq => ?_⟩
  refine xg_tupM ht rfl <| xgs_cons <| xg_name (by decide) <| xgs_cons <| xg_name (by decide) <| xgs_nil ?_
  have heq : ent Sg = jP (jrun (ent S) m n (spotsOf m n)).js := funext fun a => funext fun b => he a b
  have fw0 : FW T.pF M M1 S m n p l qs Sg (jrun (ent S) m n (spotsOf m n)).left := ⟨sub.p, hTM.sub sub, np, nl, nq, lp, lq, hT, hR, hl, by rw [heq]; exact FInv.beg J (ones_inn hS)⟩
  refine xs_seq <| xs_while (Wf := fun μ ds' M' => ∃ Sg left a b c d e f g h, ds' = [some (.dat (tabD S)), some (.adr p), some (.adr l), a, b, c, d, e, f, g, h] ∧ FW T.pF M M' S m n p l qs Sg left ∧ μ = left.length) _ ⟨_, _, _, _, _, _, _, _, _, _, rfl, fw0, rfl⟩ ?_
  rintro μ ds' M2 ⟨Sg, left, a, b, c, d, e, f, g, h, rfl, fw, rfl⟩
  have few := fw.few hS
  refine xt_tst <| xp_op <| xp_var rfl <| xp_lst <| xa_nil ⟨[], rfl, Nat.zero_le _, xo_neD (.lst fw.lft) (.dat _) (shD_sps _) (shD.mono (shD.nil 0) (by decide)) ⟨_, rfl, fun hne => ?_, fun hnil => ?_⟩⟩
  · rw [eqv_nil] at hne
    have hleft : left ≠ [] := fun z => by rw [z] at hne; cases hne
    refine ⟨fun ds' M' => ∃ Sg left' a b c d e f g h, ds' = [some (.dat (tabD S)), some (.adr p), some (.adr l), a, b, c, d, e, f, g, h] ∧ FW T.pF M M' S m n p l qs Sg left' ∧ left'.length < left.length, ?_, ?_⟩
    · rintro ds2 M3 ⟨Sg, left', a, b, c, d, e, f, g, h, h1, h2, h3⟩
      exact ⟨_, h3, Sg, left', a, b, c, d, e, f, g, h, h1, h2, rfl⟩
    · -- ways
      refine xs_seq <| xs_set ?_
      refine xp_mapR (Gd0 := fun M' => M' l = some (.lst (dats (left.map spD)))) (l := left) (enc := spD) (fun s d => ∃ w, Short (ent Sg) s.1 s.2 w ∧ w.length ≤ 10 ∧ d = .tuple [wayD w, spD s]) (xw_listM (xp_var rfl ⟨rfl, rfl⟩) fw.lft) fw.lft (by omega) ?_ ?_
      · rintro i ⟨x, y⟩ hi
        have hm := List.mem_of_getElem? hi
        have hin := ones_inn hS _ _ (fw.inv.out _ hm).1
        refine xg_tup rfl <| xgs_cons <| xg_name (by decide) <| xgs_cons <| xg_name (by decide) <| xgs_nil ⟨rfl, ?_⟩
        refine xp_tup <| xa_cons <| xp_call <| xa_cons <| xp_var rfl <| xa_cons <| xp_var rfl <| xa_cons <| xp_var rfl <| xa_nil ⟨p, qs, Sg, m, n, x, y, fw.tab, fw.rect, hin.1, fw.inv.conn _ hm, rfl, fun w hw hwl => ?_⟩
        exact xa_cons <| xp_tup <| xa_cons <| xp_var rfl <| xa_cons <| xp_var rfl <| xa_nil ⟨[_, _], rfl, (show 2 ≤ 100000 by decide), xa_nil ⟨[_, _], rfl, (show 2 ≤ 100000 by decide), rfl, _, rfl, w, hw, hwl, rfl⟩⟩
      · intro es hes
        obtain ⟨lw, rfl, hlw, hsh⟩ : ∃ lw : List (List Spot × Spot), es = lw.map (fun z => .tuple [wayD z.1, spD z.2]) ∧ lw.map (·.2) = left ∧ ∀ z ∈ lw, Short (ent Sg) z.2.1 z.2.2 z.1 ∧ z.1.length ≤ 10 := by
          clear fw few hne hleft
          induction hes with
          | nil => exact ⟨[], rfl, rfl, fun z hz => by cases hz⟩
          | @cons s d ls ds h t ih =>
            obtain ⟨lw, e1, e2, e3⟩ := ih
            obtain ⟨w, hw, hwl, rfl⟩ := h
            refine ⟨(w, s) :: lw, by rw [e1]; rfl, by rw [← e2]; rfl, fun z hz => ?_⟩
            rcases List.mem_cons.mp hz with rfl | hz
            · exact ⟨hw, hwl⟩
            · exact e3 z hz
        have hlwne : lw ≠ [] := fun z => hleft (by rw [← hlw, z]; rfl)
        refine xs_seq <| xs_asg (vs := [4, 5]) <| xp_minKey <| xa_cons <| xp_var rfl <| xa_nil ⟨lw.map fun z => (z.1.map spD, spD z.2), by rw [List.map_map]; rfl, by simpa using hlwne, fw.tabM, fun M3 tM3 sub3 z hz best => ?_⟩
        obtain ⟨⟨w, sp⟩, hzl, rfl⟩ := List.mem_map.mp hz
        obtain ⟨hshw, hwlen⟩ := hsh _ hzl
        have hspl : sp ∈ left := by rw [← hlw]; exact List.mem_map.mpr ⟨_, hzl, rfl⟩
        obtain ⟨hsp1, hsp0⟩ := fw.inv.out sp hspl
        obtain ⟨hi, hj⟩ := ones_inn hS _ _ hsp1
        have npF : ∀ {b : Addr}, M b = none → b ≠ T.pF := fun e q => by
          obtain ⟨ps, h1, _⟩ := hTM
          rw [q, h1] at e; cases e
        have hT3 : TabQ M3 p qs Sg := fw.tab.frame fun b hb => by
          have hb0 : b ≠ T.pF := by
            rcases hb with rfl | hb
            · exact npF np
            · exact npF (nq b hb)
          have hin := fw.tab.inM hb
          cases q : M2 b with
          | none => exact absurd q hin
          | some o => exact sub3 b o hb0 q
        have hl3 : M3 l = some (.lst (dats (left.map spD))) := sub3 l _ (npF nl) fw.lft
        have best' : ∀ s' ∈ left, ∀ v, Way (ent Sg) (.row s'.1) (.col s'.2) v → w.length ≤ v.length := fun s' hs' v hv => by
          rw [← hlw] at hs'
          obtain ⟨z', hz', rfl⟩ := List.mem_map.mp hs'
          have h1 := best _ (List.mem_map.mpr ⟨z', hz', rfl⟩)
          dsimp only at h1
          rw [List.length_map, List.length_map] at h1
          exact Nat.le_trans h1 ((hsh z' hz').1.least v hv)
        refine xg_tup rfl <| xgs_cons <| xg_name (by decide) <| xgs_cons <| xg_name (by decide) <| xgs_nil ?_
        -- worth
        refine xs_seq <| xs_set <| xp_cb <| xa_cons ?_
        refine xp_mapD (l := w) (enc := spD) (fun s => .int (ent Sg s.1 s.2)) (xd_var rfl) (by dsimp only at hwlen; omega) ?_ ?_
        · rintro i ⟨x, y⟩ hxy
          have hne' := Way.spots hshw.way _ (List.mem_of_getElem? hxy)
          obtain ⟨hx, hy⟩ := fw.rect.inn x y hne'
          obtain ⟨r, hr, hv, _⟩ := ent_of fw.rect hx hy
          refine xg_tup rfl <| xgs_cons <| xg_name (by decide) <| xgs_cons <| xg_name (by decide) <| xgs_nil ⟨rfl, ?_⟩
          exact xp_cellM hr hv <| xp_var rfl ⟨rfl, xp_var rfl ⟨rfl, hT3, xp_var rfl ⟨rfl, hT3, rfl, rfl⟩⟩⟩
        · rw [show w.map (fun s => PyData.int (ent Sg s.1 s.2)) = nums (w.map fun s => ent Sg s.1 s.2) by rw [nums, List.map_map]; rfl]
          refine xa_nil <| xc_sum ?_
          show Xs K _ _ _ _
          have eW : (w.map fun s => ent Sg s.1 s.2).sum = spotSum (ent Sg) w := rfl
          rw [eW]
          -- signs[..][..] = 1
          obtain ⟨r, hr, hv, hjr⟩ := ent_of fw.rect hi hj
          obtain ⟨q, hq, hm⟩ := hT3.at hr
          have hqm := List.mem_of_getElem? hq
          obtain ⟨hR4, hE4⟩ := ent_put fw.rect hi hj 1
          have hT4 := hT3.put (j := sp.2) 1 hq hr
          have ix0 : ∀ {M' : MH} {Φ : Ds → MH → Prop}, Φ (.dat (.int sp.1)) M' → Xo K (rIx K) (.dat (spD sp)) (.dat (.int 0)) M' Φ := fun h => xo_ixT (at_nat (j := 0) rfl) h
          have ix1 : ∀ {M' : MH} {Φ : Ds → MH → Prop}, Φ (.dat (.int sp.2)) M' → Xo K (rIx K) (.dat (spD sp)) (.dat (.int 1)) M' Φ := fun h => xo_ixT (at_nat (j := 1) rfl) h
          refine xs_seq <| xs_asg (vs := []) <| xp_int <| xg_setL <| xp_op <| xp_var rfl <| xp_op <| xp_var rfl <| xp_int <| ix0 <| xo_ixM (x := .adr q) hT3.top (at_nat (by rw [List.getElem?_map, hq]; rfl)) <| xp_op <| xp_var rfl <| xp_int <| ix1 ⟨q, _, sp.2, rfl, rfl, hm, by rw [List.length_map, List.length_map]; exact hjr, ?_⟩
          have hl4 : ∀ {o : MO}, (M3.up q o) l = some (.lst (dats (left.map spD))) := by
            intro o
            rw [MH.up_ne fun z => lq (by rw [z]; exact hqm)]
            exact hl3
          obtain ⟨j, hj'⟩ := List.mem_iff_getElem?.mp hspl
          have sub4 : ∀ {o : MO}, SubP T.pF M (M3.up q o) := ((fw.sub.trans sub3).new (nq q hqm))
          have tM4 : ∀ {o : MO}, TabM (M3.up q o) T.pF lamN := tM3.put hm (fun u z => by cases z)
          refine xs_seq (xs_mono (Δ' := { nx := fun ds' M' => ∃ Sv c d g h x y z, ds' = [some (.dat (tabD S)), some (.adr p), some (.adr l), c, d, some (.dat (spD sp)), g, h, x, y, z] ∧ SubP T.pF M M' ∧ TabM M' T.pF lamN ∧ TabQ M' p qs Sv ∧ Rect Sv m n ∧ ent Sv = setP (ent Sg) sp (if (spotSum (ent Sg) w + 1) % 4 = 0 then 1 else -1) ∧ M' l = some (.lst (dats (left.map spD))), rt := fun _ _ => False }) ?_ (fun ds' M' hh => ?_) (fun _ _ z => z.elim) (fun _ _ z => z.elim) (fun _ _ z => z.elim))
          · refine xs_if <| xt_tst <| xp_op <| xp_op <| xp_op <| xp_var rfl <| xp_int <| xo_i0 <| xp_int <| xo_iC (by decide) <| xp_int <| xo_neD (.dat _) (.dat _) (shD.int _ _) (shD.int _ _) ⟨_, rfl, ?_⟩
            rw [eqv_int]
            by_cases h4 : (spotSum (ent Sg) w + 1) % 4 = 0
            · refine no (by rw [decide_eq_true h4]; rfl) <| xs_nil ⟨put2 Sg sp.1 sp.2 1, _, _, _, _, _, _, _, rfl, sub4, tM4, hT4, hR4, ?_, hl4⟩
              rw [if_pos h4]
              exact funext fun a => funext fun b => hE4 a b
            · refine yes (by rw [decide_eq_false h4]; rfl) ?_
              obtain ⟨r5, hr5, hv5, hjr5⟩ := ent_of hR4 hi hj
              have hm5 := hT4.row _ q r5 hq hr5
              obtain ⟨hR5, hE5⟩ := ent_put hR4 hi hj (-1)
              have hT5 := hT4.put (j := sp.2) (-1) hq hr5
              refine xs_asg (vs := []) <| xp_un <| xp_int <| xu_neg <| xg_setL <| xp_op <| xp_var rfl <| xp_op <| xp_var rfl <| xp_int <| ix0 <| xo_ixM (x := .adr q) hT4.top (at_nat (by rw [List.getElem?_map, hq]; rfl)) <| xp_op <| xp_var rfl <| xp_int <| ix1 ⟨q, _, sp.2, rfl, rfl, hm5, by rw [List.length_map, List.length_map]; exact hjr5, put2 (put2 Sg sp.1 sp.2 1) sp.1 sp.2 (-1), _, _, _, _, _, _, _, rfl, sub4.new (nq q hqm), tM4.put hm5 (fun u z => by cases z), hT5, hR5, ?_, ?_⟩
              · rw [if_neg h4]
                refine funext fun a => funext fun b => ?_
                rw [hE5, hE4]
                unfold setP
                by_cases z : (a, b) = sp
                · rw [if_pos z, if_pos z]
                · rw [if_neg z, if_neg z, if_neg z]
              · rw [MH.up_ne fun z => lq (by rw [z]; exact hqm)]
                exact hl4
          · obtain ⟨Sv, c, d, g, h, x, y, z, rfl, s5, t5, q5, r5, e5, l5⟩ := hh
            have hstep := fw.inv.step (ones_inn hS) hspl hshw best'
            refine xs_rem <| xp_var rfl ⟨l, _, rfl, l5, xp_var rfl ⟨left.map spD, spD sp, j, spD sp, rfl, l5, shD_sps left, shD.mono (shD_sp sp) (by decide), map_at hj', by rw [eqv_sp]; exact decide_eq_true rfl, fun i z' hij hz' => ?_, ?_⟩⟩
            · obtain ⟨s', hs', rfl⟩ := map_inv hz'
              rw [eqv_sp]
              refine decide_eq_false fun z => ?_
              subst z
              have := nodup_at fw.inv.nd hs' hj'
              omega
            · rw [show (left.map spD).eraseIdx j = (left.erase sp).map spD by rw [erase_map, erase_at hj' fw.inv.nd]]
              refine ⟨Sv, left.erase sp, _, _, _, _, _, _, _, _, rfl, ⟨s5.new nl, t5.put l5 (fun u z => by cases z), np, nl, nq, lp, lq, q5.up lp lq, r5, MH.up_same, by rw [e5]; exact hstep⟩, ?_⟩
              rw [List.length_erase_of_mem hspl]
              have := List.length_pos_of_mem hspl
              omega
  · rw [eqv_nil] at hnil
    obtain rfl : left = [] := by
      cases left with
      | nil => rfl
      | cons _ _ => cases hnil
    obtain ⟨hs, hu⟩ := fw.inv.done (ones_ent h01)
    obtain ⟨Mx, hMx⟩ : ∃ Mx : MH, ∀ b, Mx b = if b = p ∨ b ∈ qs then none else M2 b := ⟨_, fun _ => rfl⟩
    have keep : ∀ b o, Mx b = some o → M2 b = some o ∧ b ≠ p ∧ b ∉ qs := fun b o z => by
      rw [hMx] at z
      by_cases q : b = p ∨ b ∈ qs
      · rw [if_pos q] at z; cases z
      · rw [if_neg q] at z
        exact ⟨z, fun e => q (.inl e), fun e => q (.inr e)⟩
    have raw : ∀ b u, M2 b = some (.raw u) → Mx b = some (.raw u) := fun b u e => by
      rw [hMx, if_neg fun q => ?_]
      · exact e
      · rcases q with q | q
        · rw [q, fw.tab.top] at e; cases e
        · obtain ⟨i, hi⟩ := List.mem_iff_getElem?.mp q
          have hl : i < Sg.length := by rw [← fw.tab.len]; exact (List.getElem?_eq_some_iff.mp hi).1
          rw [fw.tab.row i b _ hi (List.getElem?_eq_getElem hl)] at e
          cases e
    refine xs_ret <| xp_frzT <| xp_var rfl ⟨p, qs, Sg, Mx, rfl, fw.tab, keep, fin Sg Mx ⟨fw.rect, hs, fw.inv.stood, hu⟩ ?_ fun b o hb e => ?_⟩
    · obtain ⟨ps, h1, h2, h3⟩ := fw.tabM
      exact ⟨ps, raw _ _ h1, h2, fun pos cv q => let ⟨c, e1, e2⟩ := h3 pos cv q; ⟨c, e1, raw _ _ e2⟩⟩
    · rw [hMx, if_neg fun q => ?_]
      · exact fw.sub b o hb e
      · rcases q with q | q
        · rw [q, np] at e; cases e
        · rw [nq b q] at e; cases e
end
end K62
end
section
set_option Elab.async false
set_option linter.all false
set_option maxRecDepth 100000
set_option maxHeartbeats 4000000
set_option autoImplicit false
namespace K62
open PySem L2
theorem mapI (f : Nat → Nat) (l : List Nat) : (l.map fun x => PyData.int ((f x : Nat) : Int)) = nums (natI (l.map f)) := by rw [nums, natI, List.map_map, List.map_map]; rfl
theorem listI (l : List Nat) : (l.map fun x : Nat => PyData.int x) = nums (natI l) := by rw [nums, natI, List.map_map]; rfl
theorem sum_nat : ∀ l : List Nat, (natI l).sum = ((l.sum : Nat) : Int)
  | [] => rfl
  | x :: l => by
    show ((x : Nat) : Int) + (natI l).sum = _
    rw [sum_nat l, List.sum_cons]; omega
theorem xor_nat (x y : Nat) : Builtin.bitXor (x : Int) (y : Int) = ((x ^^^ y : Nat) : Int) := Bits.bitXor_pp (by omega) (by omega)
theorem xd_len0 {ds : DS} {M : MH} {K : PySem.W.Frag} {n : Nat} {ar : TA} (hn : n ≤ 100000) (h : Xa K ar ds M fun xs M1 => xs = [.dat (.int n)] ∧ M1 = M) : XiD K (iRng1 ar) ds M ((List.range n).map fun i => .int (i : Nat)) := by
  rw [← rngD0]; exact xd_rng1 hn h
section
variable {P : Program} {w : World} {K : PySem.W.Frag} {mg : Str → Option Value} {base : Heap}
def p_points_of : SpP := fun xs M Φ => ∃ (S : Tab) (m n : Nat), Rect S m n ∧ Ones S ∧ xs = [.dat (tabD S)] ∧ Φ (.dat (nD (ptsN S m n))) M
theorem ok_points_of (T : Txt w K mg) : FnOk P w K mg base CX0 1 T.d_points_of.f T.d_points_of.fd ["table"] (spE K p_points_of) := by
  refine fn_ok T.d_points_of.F sc_points_of (fun xs M Φ ⟨_, _, _, _, _, h, _⟩ => by rw [h]; rfl) fun cdv A outer s H E hr => ?_
  have nd := sc_points_of.nd
  refine ⟨_, (pss_cons (ps_setLc (i := 1) (own := [("i", 2)]) rfl nd rfl rfl (sw_true rfl rfl rfl (by decide +kernel)) (pi_range1 (by rfl) T.z_range (pa_cons (pe_callB (k_len (K := K) rfl) (by rfl) T.z_len (by decide +kernel) (pa_cons (pv 0) pa_nil)) pa_nil)) (blkOk_by (by kernel_rfl)) (fun _ _ _ _ _ => (pg_name (i := 2) nd rfl (Or.inl rfl))) (fun _ _ _ _ _ => pts_nil) (fun _ _ _ _ _ => (pe_op op_shl pe_int (pv 2))))
      (pss_one (ps_ret (pe_op op_cat (pv 1) (pe_lc (own := [("j", 3)]) rfl nd (pi_range1 (by rfl) T.z_range (pa_cons (pe_callB (k_len (K := K) rfl) (by rfl) T.z_len (by decide +kernel) (pa_cons (pe_ix (k_ix (K := K) rfl) (pv 0) pe_int (fun _ _ => rfl)) pa_nil)) pa_nil)) (blkOk_by (by kernel_rfl)) (fun _ _ _ _ _ => (pg_name (i := 3) nd rfl (Or.inr rfl))) (fun _ _ _ _ _ => pts_nil) (fun _ _ _ _ _ => (pe_callB (k_sum (K := K) rfl rfl) (by rfl) T.z_sum (by decide +kernel) (pa_cons (pe_lc (own := [("i", 2), ("row", 4)]) rfl nd (kiE (K := K) rfl (pi_enum (by rfl) T.z_enumerate (pa_cons (pv 0) pa_nil))) (blkOk_by (by kernel_rfl)) (fun _ _ _ _ _ => (kgT (K := K) rfl (pg_tup (n := 2) rfl (pgs_cons (pg_name (i := 2) nd rfl (Or.inl rfl)) (pgs_cons (pg_name (i := 4) nd rfl (Or.inl rfl)) pgs_nil))))) (fun _ _ _ _ _ => pts_nil) (fun _ _ _ _ _ => (pe_op op_shl (pe_ix (k_ix (K := K) rfl) (pv 4) (pv 3) (fun _ _ => rfl)) (pv 2)))) pa_nil)))))))), ?_⟩
  rintro xs M Φ ⟨S, m, n, hS, h01, rfl, k⟩
  have m5 := hS.m5
  have n5 := hS.n5
  refine xs_seq <| xs_set ?_
  refine xp_mapD (l := List.range m) (enc := fun i : Nat => .int i) (fun i => .int ((2 ^ i : Nat) : Int)) (xd_len0 (by omega) <| xa_cons <| xp_tall hS rfl <| xa_nil ⟨rfl, rfl⟩) (by rw [List.length_range]; omega) ?_ ?_
  · intro i i' hi
    obtain ⟨hi', rfl⟩ := range_at hi
    refine xg_name (by decide) ⟨rfl, xp_op <| xp_int <| xp_var rfl <| xo_iC ⟨by omega, by omega, by decide⟩ ⟨rfl, ?_⟩⟩
    rw [Int.one_mul, Int.toNat_natCast]
    simp
  · refine xs_ret <| xp_op <| xp_var rfl ?_
    refine xp_mapD (l := List.range n) (enc := fun i : Nat => .int i) (fun j => .int ((maskN S m j : Nat) : Int)) (xd_len0 (by omega) <| xa_cons <| xp_wide hS rfl <| xa_nil ⟨rfl, rfl⟩) (by rw [List.length_range]; omega) ?_ ?_
    · intro j j' hj
      obtain ⟨hj', rfl⟩ := range_at hj
      refine xg_name (by decide) ⟨rfl, xp_cb <| xa_cons ?_⟩
      refine xp_mapD (l := S.zipIdx) (enc := fun z => .tuple [.int (z.2 : Nat), rowD z.1]) (fun z => .int (((ent S z.2 j).toNat * 2 ^ z.2 : Nat) : Int)) ?_ (by rw [List.length_zipIdx, hS.len]; omega) ?_ ?_
      · rw [← enumD_map rowD]
        exact xd_enum <| xa_cons <| xp_var rfl <| xa_nil ⟨rfl, rfl⟩
      · rintro i ⟨r, i'⟩ hi
        rw [zipIdx_tab hS, List.getElem?_map] at hi
        obtain ⟨hi', e⟩ : i < m ∧ (rowAt S n i, i) = (r, i') := by
          by_cases z : i < m
          · rw [List.getElem?_range z] at hi; exact ⟨z, Option.some.inj hi⟩
          · rw [List.getElem?_eq_none (by rw [List.length_range]; omega)] at hi; cases hi
        cases e
        obtain ⟨r, hr, hv⟩ := hS.cell hi' hj'
        rw [hS.rowAt hi'] at hr
        cases hr
        refine xg_tup rfl <| xgs_cons <| xg_name (by decide) <| xgs_cons <| xg_name (by decide) <| xgs_nil ⟨rfl, ?_⟩
        refine xp_op <| xp_op <| xp_var rfl <| xp_var rfl <| xo_ixL (d := .int (ent S i j)) (at_nat (map_at hv)) <| xp_var rfl <| xo_iC ⟨by omega, by omega, by rcases ones_ent h01 i j with z | z <;> rw [z] <;> decide⟩ ⟨rfl, ?_⟩
        rw [Int.toNat_natCast]
        rcases ones_ent h01 i j with z | z <;> rw [z] <;> simp
      · rw [show S.zipIdx.map (fun z => PyData.int (((ent S z.2 j).toNat * 2 ^ z.2 : Nat) : Int)) = nums (natI ((List.range m).map fun i => (ent S i j).toNat * 2 ^ i)) by
          rw [zipIdx_tab hS, List.map_map, ← mapI]; rfl]
        refine xa_nil <| xc_sum ⟨rfl, ?_⟩
        rw [sum_nat]; rfl
    · refine xo_cat (by simp; omega) ?_
      rw [mapI, mapI, nums, nums, ← List.map_append, ← natI_app]
      exact k
def p_sums_of : SpP := fun xs M Φ => ∃ ns : List Nat, ns.length ≤ 8 ∧ xs = [.dat (nD ns)] ∧ Φ (.dat (nD (xsumsN ns))) M
theorem ok_sums_of (T : Txt w K mg) : FnOk P w K mg base CX0 1 T.d_sums_of.f T.d_sums_of.fd ["numbers"] (spE K p_sums_of) := by
  refine fn_ok T.d_sums_of.F sc_sums_of (fun xs M Φ ⟨_, _, h, _⟩ => by rw [h]; rfl) fun cdv A outer s H E hr => ?_
  have nd := sc_sums_of.nd
  refine ⟨_, (pss_cons (ps_set (i := 1) nd rfl (Or.inl rfl) (pe_lst (pa_cons pe_int pa_nil)))
      (pss_cons (ps_for PassesOwn.never rfl (kiL (K := K) rfl (pi_list (pv 0))) (pg_name (i := 2) nd rfl (Or.inr rfl)) (pss_one (ps_set (i := 1) nd rfl (Or.inl rfl) (pe_op op_cat (pv 1) (pe_lc (own := [("one", 3)]) rfl nd (kiL (K := K) rfl (pi_list (pv 1))) (blkOk_by (by kernel_rfl)) (fun _ _ _ _ _ => (pg_name (i := 3) nd rfl (Or.inl rfl))) (fun _ _ _ _ _ => pts_nil) (fun _ _ _ _ _ => (pe_op op_xor (pv 3) (pv 2))))))))
      (pss_one (ps_ret (pv 1))))), ?_⟩
  rintro xs M Φ ⟨ns, hl, rfl, k⟩
  refine xs_seq <| xs_set <| xp_lst <| xa_cons <| xp_int <| xa_nil ⟨[_], rfl, len1, ?_⟩
  refine xs_seq (xs_forD (l := ns) (enc := fun x : Nat => .int x) [2] (fun i ds' M' => ∃ x y, M' = M ∧ ds' = [some (.dat (nD ns)), some (.dat (nD (xsumsN (ns.take i)))), x, y]) (by rw [listI]; exact xd_var rfl) ⟨_, _, rfl, rfl⟩ ?_ ?_)
  · rintro i x ds' M' hx ⟨a, b, rfl, rfl⟩
    have hi := (List.getElem?_eq_some_iff.mp hx).1
    have hlen := xsums_len (ns.take i)
    have h2 : 2 ^ (ns.take i).length ≤ 2 ^ 8 := Nat.pow_le_pow_right (by decide) (by rw [List.length_take]; omega)
    have h3 : (2 : Nat) ^ 8 = 256 := rfl
    refine xg_name (by decide) <| xs_set <| xp_op <| xp_var rfl ?_
    refine xp_mapD (l := xsumsN (ns.take i)) (enc := fun y : Nat => .int y) (fun y => .int ((y ^^^ x : Nat) : Int)) (by rw [listI]; exact xd_var rfl) (by omega) ?_ ?_
    · intro j y hy
      exact xg_name (by decide) ⟨rfl, xp_op <| xp_var rfl <| xp_var rfl <| xo_i0 ⟨rfl, by rw [xor_nat]⟩⟩
    · refine xo_cat (by simp; omega) ?_
      rw [mapI (fun y => y ^^^ x), nums, nums, ← List.map_append, ← natI_app]
      rw [show xsumsN (ns.take (i + 1)) = xsumsN (ns.take i) ++ (xsumsN (ns.take i)).map fun y => y ^^^ x by rw [List.take_add_one, hx]; unfold xsumsN; rw [List.foldl_append]; rfl]
      exact ⟨_, _, rfl, rfl⟩
  · rintro ds' M' ⟨a, b, rfl, rfl⟩
    rw [List.take_length]
    exact xs_ret <| xp_var rfl k
def wsD (z : Nat × Nat) : PyData := .tuple [.int (z.1 : Nat), .int (z.2 : Nat)]
def p_kept_sums : SpP := fun xs M Φ => ∃ pts kept : List Nat, kept.length ≤ 8 ∧ (∀ k ∈ kept, k < pts.length) ∧ xs = [.dat (nD pts), .dat (pD kept)] ∧ Φ (.dat (.list ((ksumsN (kept.map fun k => pts.getD k 0)).map wsD))) M
theorem ok_kept_sums (T : Txt w K mg) : FnOk P w K mg base CX0 1 T.d_kept_sums.f T.d_kept_sums.fd ["points", "kept"] (spE K p_kept_sums) := by
  refine fn_ok T.d_kept_sums.F sc_kept_sums (fun xs M Φ ⟨_, _, _, _, h, _⟩ => by rw [h]; rfl) fun cdv A outer s H E hr => ?_
  have nd := sc_kept_sums.nd
  refine ⟨_, (pss_cons (ps_set (i := 2) nd rfl (Or.inl rfl) (pe_lst (pa_cons (pe_tup (pa_cons pe_int (pa_cons pe_int pa_nil))) pa_nil)))
      (pss_cons (ps_for PassesOwn.never rfl (kiL (K := K) rfl (pi_list (pv 1))) (pg_name (i := 3) nd rfl (Or.inr rfl)) (pss_one (ps_set (i := 2) nd rfl (Or.inl rfl) (pe_op op_cat (pv 2) (pe_lc (own := [("worth", 4), ("size", 5)]) rfl nd (kiL (K := K) rfl (pi_list (pv 2))) (blkOk_by (by kernel_rfl)) (fun _ _ _ _ _ => (kgT (K := K) rfl (pg_tup (n := 2) rfl (pgs_cons (pg_name (i := 4) nd rfl (Or.inl rfl)) (pgs_cons (pg_name (i := 5) nd rfl (Or.inl rfl)) pgs_nil))))) (fun _ _ _ _ _ => pts_nil) (fun _ _ _ _ _ => (pe_tup (pa_cons (pe_op op_xor (pv 4) (pe_ix (k_ix (K := K) rfl) (pv 0) (pv 3) (fun _ _ => rfl))) (pa_cons (pe_op op_add (pv 5) pe_int) pa_nil)))))))))
      (pss_one (ps_ret (pe_slice (k_sl (K := K) rfl) (pv 2) (po_some pe_int) po_none))))), ?_⟩
  rintro xs M Φ ⟨pts, kept, hl, hin, rfl, k⟩
  refine xs_seq <| xs_set <| xp_lst <| xa_cons <| xp_tup <| xa_cons <| xp_int <| xa_cons <| xp_int <| xa_nil ⟨[_, _], rfl, (show 2 ≤ 100000 by decide), xa_nil ⟨[_], rfl, len1, ?_⟩⟩
  refine xs_seq (xs_forD (l := kept) (enc := fun x : Nat => .int x) [3] (fun i ds' M' => ∃ x y z, M' = M ∧ ds' = [some (.dat (nD pts)), some (.dat (pD kept)), some (.dat (.list ((kfoldN ((kept.take i).map fun k => pts.getD k 0)).map wsD))), x, y, z]) (by rw [listI]; exact xd_var rfl) ⟨_, _, _, rfl, rfl⟩ ?_ ?_)
  · rintro i x ds' M' hx ⟨a, b, c, rfl, rfl⟩
    have hi := (List.getElem?_eq_some_iff.mp hx).1
    have hxp := hin x (List.mem_of_getElem? hx)
    have hlen := kfold_len ((kept.take i).map fun k => pts.getD k 0)
    have h2 : 2 ^ ((kept.take i).map fun k => pts.getD k 0).length ≤ 2 ^ 8 := Nat.pow_le_pow_right (by decide) (by rw [List.length_map, List.length_take]; omega)
    have h3 : (2 : Nat) ^ 8 = 256 := rfl
    have hat : pts[x]? = some (pts.getD x 0) := by rw [List.getD_eq_getElem?_getD, List.getElem?_eq_getElem hxp]; rfl
    refine xg_name (by decide) <| xs_set <| xp_op <| xp_var rfl ?_
    refine xp_mapD (l := kfoldN ((kept.take i).map fun k => pts.getD k 0)) (enc := wsD) (fun z => wsD (z.1 ^^^ pts.getD x 0, z.2 + 1)) (xd_var rfl) (by omega) ?_ ?_
    · rintro j ⟨u, v⟩ hj
      refine xg_tup rfl <| xgs_cons <| xg_name (by decide) <| xgs_cons <| xg_name (by decide) <| xgs_nil ⟨rfl, ?_⟩
      refine xp_tup <| xa_cons <| xp_op <| xp_var rfl <| xp_op <| xp_var rfl <| xp_var rfl <| xo_ixL (d := .int (pts.getD x 0 : Nat)) (nD_at hat) <| xo_i0 <| xa_cons <| xp_op <| xp_var rfl <| xp_int <| xo_i0 <| xa_nil ⟨[_, _], rfl, (show 2 ≤ 100000 by decide), rfl, ?_⟩
      rw [xor_nat]; rfl
    · refine xo_cat (by rw [List.length_map, List.length_map]; omega) ?_
      rw [show (kfoldN ((kept.take i).map fun k => pts.getD k 0)).map wsD ++ (kfoldN ((kept.take i).map fun k => pts.getD k 0)).map (fun z => wsD (z.1 ^^^ pts.getD x 0, z.2 + 1)) = (kfoldN ((kept.take i).map fun k => pts.getD k 0) ++ (kfoldN ((kept.take i).map fun k => pts.getD k 0)).map fun z : Nat × Nat => (z.1 ^^^ pts.getD x 0, z.2 + 1)).map wsD by rw [List.map_append, List.map_map]; rfl]
      rw [show kfoldN ((kept.take (i + 1)).map fun k => pts.getD k 0) = kfoldN ((kept.take i).map fun k => pts.getD k 0) ++ (kfoldN ((kept.take i).map fun k => pts.getD k 0)).map fun z => (z.1 ^^^ pts.getD x 0, z.2 + 1) by rw [List.take_add_one, hx, List.map_append]; unfold kfoldN; rw [List.foldl_append]; rfl]
      exact ⟨_, _, _, rfl, rfl⟩
  · rintro ds' M' ⟨a, b, c, rfl, rfl⟩
    rw [List.take_length]
    refine xs_ret <| xp_sl (.c 1) .no <| xp_var rfl ⟨_, rfl, ?_⟩
    rw [cut_tail, ← List.map_drop]
    exact k
end
end K62
end
section
set_option Elab.async false
set_option linter.all false
set_option maxRecDepth 100000
set_option maxHeartbeats 4000000
set_option autoImplicit false
namespace K62
open PySem L2
theorem xp_dnewK {K : PySem.W.Frag} {ds : DS} {M : MH} {Φ : Ds → MH → Prop} (k : ∀ p, M p = none → Φ (.adr p) (M.up p (.dK []))) : Xp K tDNewK ds M Φ := fun σ G H sd I Q q p hp => by
  have m : MOk K G (.dK []) (.dK []) := Paired.nil
  exact q _ (.adr p) _ _ _ (Stp.newM I hp m) rfl (k p (I.no hp))
abbrev keyI (z : Nat × Nat) : L2.Key × Int := (Sum.inl (z.1 : Int), (z.2 : Int))
theorem key_eq (a b : Nat) : decide ((Sum.inl (a : Int) : L2.Key) = Sum.inl (b : Int)) = decide (a = b) := decide_eq_decide.mpr ⟨fun h => by injection h with h; exact Int.ofNat_inj.mp h, fun h => by rw [h]⟩
theorem look_int : ∀ (D : List (Nat × Nat)) (k : Nat), (lookK (intM (D.map keyI)) (Sum.inl (k : Int))).getD (.dat (.int 0)) = .dat (.int (getN D k : Nat))
  | [], _ => rfl
  | z :: D, k => by
    have ih := look_int D k
    unfold lookK getN at ih ⊢
    rw [List.map_cons, intM, List.map_cons, List.find?_cons, List.find?_cons]
    dsimp only
    rw [key_eq]
    cases h : decide (z.1 = k) with
    | true => rfl
    | false => exact ih
theorem any_int (D : List (Nat × Nat)) (k : Nat) : ((intM (D.map keyI)).any fun kv => decide (kv.1 = (Sum.inl (k : Int) : L2.Key))) = D.any fun z => decide (z.1 = k) := by
  rw [intM, List.map_map, List.any_map]
  congr 1
  funext z
  exact key_eq z.1 k
theorem put_int (D : List (Nat × Nat)) (k : Nat) : putM (intM (D.map keyI)) (Sum.inl (k : Int)) (.dat (.int ((getN D k + 1 : Nat) : Int))) = intM ((bump D k).map keyI) := by
  unfold putM bump
  rw [any_int]
  by_cases h : (D.any fun z => decide (z.1 = k)) = true
  · rw [if_pos h, if_pos h]
    simp only [intM, List.map_map]
    refine List.map_congr_left fun z _ => ?_
    show (if (Sum.inl (z.1 : Int) : L2.Key) = Sum.inl (k : Int) then _ else _) = _
    by_cases e : z.1 = k
    · rw [if_pos (by rw [e])]
      show _ = ((fun z : L2.Key × Int => (z.1, Ds.dat (.int z.2))) (keyI (if z.1 = k then (z.1, getN D k + 1) else z)))
      rw [if_pos e]; rfl
    · rw [if_neg fun q => e (by injection q with q; exact Int.ofNat_inj.mp q)]
      show _ = ((fun z : L2.Key × Int => (z.1, Ds.dat (.int z.2))) (keyI (if z.1 = k then (z.1, getN D k + 1) else z)))
      rw [if_neg e]; rfl
  · rw [if_neg h, if_neg h, List.map_append, intM, intM, List.map_append]; rfl
theorem any_nat (l : List Nat) (x : Nat) : ((nums (natI l)).any fun z => PyData.eqv z (.int (x : Nat))) = decide (x ∈ l) := by
  rw [← listI, List.any_map]
  induction l with
  | nil => rfl
  | cons a l ih =>
    rw [List.any_cons, ih]
    show (PyData.eqv (.int (a : Nat)) (.int (x : Nat)) || decide (x ∈ l)) = _
    rw [eqv_nat]
    by_cases h : a = x
    · subst h; simp
    · have : ¬ x = a := fun e => h e.symm
      simp [h, this]
theorem tells_val {D ps : List (Nat × Nat)} (hn : ∀ z ∈ ps, valV (intD (ps.map keyI)) (Sum.inl (z.1 : Int)) = some (.int (z.2 : Nat))) (h : Tells D ps) : (D.map keyI).length = (ps.map keyI).length ∧ ∀ z ∈ D.map keyI, valV (intD (ps.map keyI)) z.1 = some (.int z.2) := by
  refine ⟨by rw [List.length_map, List.length_map]; exact h.1, fun z hz => ?_⟩
  obtain ⟨y, hy, rfl⟩ := List.mem_map.mp hz
  exact hn y (h.2 y hy)
theorem seven_val : ∀ z ∈ SevenP, valV (intD (SevenP.map keyI)) (Sum.inl (z.1 : Int)) = some (.int (z.2 : Nat)) := by
  intro z hz
  rcases List.mem_cons.mp hz with rfl | hz
  · rfl
  · rcases List.mem_cons.mp hz with rfl | hz
    · rfl
    · obtain rfl := List.mem_singleton.mp hz; rfl
theorem turned_val : ∀ z ∈ TurnedP, valV (intD (TurnedP.map keyI)) (Sum.inl (z.1 : Int)) = some (.int (z.2 : Nat)) := by
  intro z hz
  obtain rfl := List.mem_singleton.mp hz; rfl
section
variable {P : Program} {w : World} {K : PySem.W.Frag} {mg : Str → Option Value} {base : Heap}
abbrev sevS : Str := Str.ofString "seven"
abbrev turS : Str := Str.ofString "turned"
def Kindly (d : PyData) : Prop := d = .none ∨ d = .str sevS ∨ d = .str turS
def p_kind_by : SpP := fun xs M Φ => ∃ (reached : List Nat) (sums : List (Nat × Nat)), reached.length ≤ 1000 ∧ sums.length ≤ 1000 ∧ xs = [.dat (nD reached), .dat (.list (sums.map wsD))] ∧
  ∀ d, Kindly d → (Tells (sizesN reached sums) SevenP ∨ Tells (sizesN reached sums) TurnedP → d ≠ .none) → Φ (.dat d) M
theorem ok_kind_by (T : Txt w K mg) : FnOk P w K mg base CX0 1 T.d_kind_by.f T.d_kind_by.fd ["reached", "sums"] (spE K p_kind_by) := by
  refine fn_ok T.d_kind_by.F sc_kind_by (fun xs M Φ ⟨_, _, _, _, h, _⟩ => by rw [h]; rfl) fun cdv A outer s H E hr => ?_
  have nd := sc_kind_by.nd
  refine ⟨_, (pss_cons (ps_set (i := 2) nd rfl (Or.inl rfl) pe_dnewK)
      (pss_cons (ps_for PassesOwn.never rfl (kiL (K := K) rfl (pi_list (pv 1))) (kgT (K := K) rfl (pg_tup (n := 2) rfl (pgs_cons (pg_name (i := 3) nd rfl (Or.inl rfl)) (pgs_cons (pg_name (i := 4) nd rfl (Or.inl rfl)) pgs_nil)))) (pss_one (ps_if (pt_cmpR (k_in (K := K) rfl (u65 hr)) (pv 3) (pv 0) (by rfl)) (pss_one (ps_dput (hu_of hr) (pv 2) (pv 4) (pe_op op_add (pe_dget2 (hu_of hr) (pv 2) (pv 4) pe_int ⟨rfl, rfl, rfl, rfl⟩) pe_int) rfl)) pss_nil)))
      (pss_cons (ps_for PassesOwn.never rfl (kiT (K := K) rfl (pi_tup (pe_tup (pa_cons pe_str (pa_cons pe_str pa_nil))))) (pg_name (i := 5) nd rfl (Or.inl rfl)) (pss_one (ps_if (pt_cmpR (op_eqDI (u64 hr)) (pv 2) (pe_callTy (k_dictK (K := K) rfl rfl) (by rfl) T.z_dict (by decide +kernel) (pa_cons (pe_ix (k_ixD (K := K) (w := w) rfl rfl) (pe_glob (v := .ref T.aT) rfl T.mT rfl) (pv 5) (fun _ _ => rfl)) pa_nil)) (nomark _)) (pss_one (ps_ret (pv 5))) pss_nil)))
      (pss_one (ps_ret pe_non))))), ?_⟩
  rintro xs M Φ ⟨reached, sums, hl1, hl2, rfl, fin⟩
  refine xs_pure ?_
  refine xs_seq <| xs_set <| xp_dnewK fun d hd => ?_
  refine xs_seq (xs_forD (l := sums) (enc := wsD) [3, 4] (fun i ds' M' => ∃ x y z, ds' = [some (.dat (nD reached)), some (.dat (.list (sums.map wsD))), some (.adr d), x, y, z] ∧ Sub M M' ∧ M' d = some (.dK (intM ((sizesN reached (sums.take i)).map keyI)))) (xd_var rfl) ⟨_, _, _, rfl, Sub.up hd, MH.up_same⟩ ?_ ?_)
  · rintro i ⟨wo, si⟩ ds' M' hi ⟨x, y, z, rfl, sub, hD⟩
    have hlen := sizes_len reached (sums.take i) []
    have hlt : (sizesN reached (sums.take i)).length < 100000 := by
      refine Nat.lt_of_le_of_lt hlen ?_
      rw [List.length_nil, List.length_take]; omega
    have hstep : sizesN reached (sums.take (i + 1)) = if wo ∈ reached then bump (sizesN reached (sums.take i)) si else sizesN reached (sums.take i) := by
      rw [List.take_add_one, hi]; unfold sizesN; rw [List.foldl_append]; rfl
    refine xg_tup rfl <| xgs_cons <| xg_name (by decide) <| xgs_cons <| xg_name (by decide) <| xgs_nil ?_
    refine xs_if <| xt_tst <| xp_op <| xp_var rfl <| xp_var rfl <| xo_inD (.dat _) (.dat _) (shD.int _ _) (shD.mono (shD.nums 0 _) (by decide)) ⟨_, rfl, ?_⟩
    rw [any_nat, hstep]
    by_cases h : wo ∈ reached
    · rw [if_pos h]
      refine yes (decide_eq_true h) ?_
      refine xs_dput <| xp_op <| xp_dget2 <| xp_var rfl ⟨d, rfl, ⟨_, hD⟩, xp_var rfl <| xp_int ⟨_, KeyAt.k (Sum.inl (si : Int)) hD, ?_⟩⟩
      rw [look_int]
      refine xp_int <| xo_i0 <| xp_var rfl <| xp_var rfl ⟨d, _, rfl, KeyPut.k (Sum.inl (si : Int)) hD (by rw [List.length_map, List.length_map]; exact hlt), _, _, _, rfl, sub.new hd, ?_⟩
      rw [MH.up_same, ← put_int]; rfl
    · rw [if_neg h]
      exact no (decide_eq_false h) <| xs_nil ⟨_, _, _, rfl, sub, hD⟩
  · rintro ds' M' ⟨x, y, z, rfl, sub, hD⟩
    rw [List.take_length] at hD
    refine xs_seq (xs_forD (l := [sevS, turS]) (enc := PyData.str) [5] (fun i ds' M' => ∃ z, ds' = [some (.dat (nD reached)), some (.dat (.list (sums.map wsD))), some (.adr d), x, y, z] ∧ Sub M M' ∧ M' d = some (.dK (intM ((sizesN reached sums).map keyI))) ∧ (1 ≤ i → ¬ Tells (sizesN reached sums) SevenP) ∧ (2 ≤ i → ¬ Tells (sizesN reached sums) TurnedP)) (xd_tup (xp_tup <| xa_cons <| xp_str <| xa_cons <| xp_str <| xa_nil ⟨[_, _], rfl, (show 2 ≤ 100000 by decide), rfl, rfl⟩)) ⟨_, rfl, sub, hD, fun h => by omega, fun h => by omega⟩ ?_ ?_)
    · rintro i kd ds' M2 hi ⟨z, rfl, sub2, hD2, n1, n2⟩
      match i, hi with
      | 0, hi =>
        cases hi
        refine xg_name (by decide) <| xs_if <| xt_tst <| xp_op <| xp_var rfl <| xp_cb <| xa_cons <| xp_op <| xp_refC <| xp_var rfl <| xo_ixD T.k7 <| xa_nil <| xc_dictK T.w7 (show 3 ≤ 1000 by decide) rfl fun p hp => ?_
        have hpd : d ≠ p := fun e => by subst e; rw [hD2] at hp; cases hp
        refine xo_eqDI (la := (sizesN reached sums).map keyI) (lb := SevenP.map keyI) (by rw [MH.up_ne hpd]; exact hD2) (by rw [MH.up_same]; rfl) fun r hr => ⟨_, rfl, fun e => ?_, fun e => ?_⟩
        · exact xs_ret <| xp_var rfl ⟨sub2.new (sub2.none hp), fin _ (.inr (.inl rfl)) fun _ z => by cases z⟩
        · refine xs_nil ⟨_, rfl, sub2.new (sub2.none hp), by rw [MH.up_ne hpd]; exact hD2, fun _ ht => ?_, fun h => by omega⟩
          have := hr (tells_val seven_val ht)
          rw [e] at this; cases this
      | 1, hi =>
        cases hi
        refine xg_name (by decide) <| xs_if <| xt_tst <| xp_op <| xp_var rfl <| xp_cb <| xa_cons <| xp_op <| xp_refC <| xp_var rfl <| xo_ixD T.k4 <| xa_nil <| xc_dictK T.w4 (show 1 ≤ 1000 by decide) rfl fun p hp => ?_
        have hpd : d ≠ p := fun e => by subst e; rw [hD2] at hp; cases hp
        refine xo_eqDI (la := (sizesN reached sums).map keyI) (lb := TurnedP.map keyI) (by rw [MH.up_ne hpd]; exact hD2) (by rw [MH.up_same]; rfl) fun r hr => ⟨_, rfl, fun e => ?_, fun e => ?_⟩
        · exact xs_ret <| xp_var rfl ⟨sub2.new (sub2.none hp), fin _ (.inr (.inr rfl)) fun _ z => by cases z⟩
        · refine xs_nil ⟨_, rfl, sub2.new (sub2.none hp), by rw [MH.up_ne hpd]; exact hD2, fun _ => n1 (Nat.le_refl _), fun _ ht => ?_⟩
          have := hr (tells_val turned_val ht)
          rw [e] at this; cases this
    · rintro ds' M2 ⟨z, rfl, sub2, hD2, n1, n2⟩
      refine xs_ret <| xp_non ⟨sub2, fin _ (.inl rfl) fun h => ?_⟩
      rcases h with h | h
      · exact absurd h (n1 (show 1 ≤ 2 by decide))
      · exact absurd h (n2 (Nat.le_refl _))
theorem picks_all : ∀ many, many < 10 → ∀ s, s < 10 → ∀ p ∈ picksN many s, p.length = s ∧ ∀ x ∈ p, x < many := fun many hm s hs p hp => by
  obtain ⟨h1, h2⟩ := (mem_picksN s p).mp hp
  exact ⟨h1, h2.le⟩
theorem takens_few : ∀ k, k < 5 → ((List.range (k + 1)).flatMap fun s => picksN k s).length ≤ 16 := by decide +kernel
/-- what is told of a piece -/
def PieceD (d : PyData) : Prop := d = .none ∨ ∃ k a b, (k = sevS ∨ k = turS) ∧ d = .tuple [.str k, a, b]
def p_piece : SpP := fun xs M Φ => ∃ (S : Tab) (m n : Nat), Rect S m n ∧ m ≤ 4 ∧ Ones S ∧ xs = [.dat (tabD S)] ∧ ∀ d, PieceD d → (HasPiece (ptsN S m n) → d ≠ .none) → Φ (.dat d) M
theorem ok_piece_by_twos (T : Txt w K mg) : FnOk P w K mg base CX0 2 T.d_piece_by_twos.f T.d_piece_by_twos.fd ["table"] (spE K p_piece) := by
  refine fn_ok T.d_piece_by_twos.F sc_piece_by_twos (fun xs M Φ ⟨_, _, _, _, _, _, h, _⟩ => by rw [h]; rfl) fun cdv A outer s H E hr => ?_
  have nd := sc_piece_by_twos.nd
  refine ⟨_, (pss_cons (ps_set (i := 1) nd rfl (Or.inr rfl) (pe_call (ok_points_of T) (hr.mono (by first | decide | omega)) rfl T.d_points_of.m T.d_points_of.F.kp T.d_points_of.b .nil pass0 (pa_cons (pv 0) pa_nil)))
      (pss_cons (ps_for PassesOwn.never rfl (kiL (K := K) rfl (pi_list (pe_call (ok_picks T) (hr.mono (by first | decide | omega)) rfl T.d_picks.m T.d_picks.F.kp T.d_picks.b .nil pass0 (pa_cons (pe_callB (k_len (K := K) rfl) (by rfl) T.z_len (by decide +kernel) (pa_cons (pv 1) pa_nil)) (pa_cons (pe_glob (v := .int 7) rfl T.g_SEVEN ⟨_, rfl⟩) pa_nil))))) (pg_name (i := 2) nd rfl (Or.inr rfl)) (pss_cons (ps_set (i := 3) nd rfl (Or.inl rfl) (pe_call (ok_kept_sums T) (hr.mono (by first | decide | omega)) rfl T.d_kept_sums.m T.d_kept_sums.F.kp T.d_kept_sums.b .nil pass0 (pa_cons (pv 1) (pa_cons (pv 2) pa_nil))))
      (pss_cons (ps_set (i := 4) nd rfl (Or.inr rfl) (pe_lc (own := [("k", 7)]) rfl nd (pi_range1 (by rfl) T.z_range (pa_cons (pe_callB (k_len (K := K) rfl) (by rfl) T.z_len (by decide +kernel) (pa_cons (pv 1) pa_nil)) pa_nil)) (blkOk_by (by kernel_rfl)) (fun _ _ _ _ _ => (pg_name (i := 7) nd rfl (Or.inl rfl))) (fun _ _ _ _ _ => (pts_one (pt_cmpR (k_ni (K := K) rfl (u65 hr)) (pv 7) (pv 2) (by rfl)))) (fun _ _ _ _ _ => (pv 7))))
      (pss_one (ps_for PassesOwn.never rfl (kiL (K := K) rfl (pi_list (pe_lc2 (own := [("size", 8), ("pick", 9)]) (vs1 := [9]) rfl nd (pi_range1 (by rfl) T.z_range (pa_cons (pe_op op_add (pe_callB (k_len (K := K) rfl) (by rfl) T.z_len (by decide +kernel) (pa_cons (pv 4) pa_nil)) pe_int) pa_nil)) (blkOk_by (by kernel_rfl)) (by decide) (fun _ _ _ _ _ => (pg_name (i := 8) nd rfl (Or.inl rfl))) (fun _ _ _ _ _ => pts_nil) (fun _ _ _ _ _ => (kiL (K := K) rfl (pi_list (pe_call (ok_picks T) (hr.mono (by first | decide | omega)) rfl T.d_picks.m T.d_picks.F.kp T.d_picks.b .nil pass0 (pa_cons (pe_callB (k_len (K := K) rfl) (by rfl) T.z_len (by decide +kernel) (pa_cons (pv 4) pa_nil)) (pa_cons (pv 8) pa_nil)))))) (fun _ _ _ _ _ => (pg_name (i := 9) nd rfl (Or.inl rfl))) (fun _ _ _ _ _ => pts_nil) (fun _ _ _ _ _ => (pe_lc (own := [("k", 7)]) rfl nd (kiL (K := K) rfl (pi_list (pv 9))) (blkOk_by (by kernel_rfl)) (fun _ _ _ _ _ => (pg_name (i := 7) nd rfl (Or.inl rfl))) (fun _ _ _ _ _ => pts_nil) (fun _ _ _ _ _ => (pe_ix (k_ix (K := K) rfl) (pv 4) (pv 7) (fun _ _ => rfl)))))))) (pg_name (i := 5) nd rfl (Or.inl rfl)) (pss_cons (ps_set (i := 6) nd rfl (Or.inl rfl) (pe_call (ok_kind_by T) (hr.mono (by first | decide | omega)) rfl T.d_kind_by.m T.d_kind_by.F.kp T.d_kind_by.b .nil pass0 (pa_cons (pe_call (ok_sums_of T) (hr.mono (by first | decide | omega)) rfl T.d_sums_of.m T.d_sums_of.F.kp T.d_sums_of.b .nil pass0 (pa_cons (pe_lc (own := [("k", 7)]) rfl nd (kiL (K := K) rfl (pi_list (pv 5))) (blkOk_by (by kernel_rfl)) (fun _ _ _ _ _ => (pg_name (i := 7) nd rfl (Or.inl rfl))) (fun _ _ _ _ _ => pts_nil) (fun _ _ _ _ _ => (pe_ix (k_ix (K := K) rfl) (pv 1) (pv 7) (fun _ _ => rfl)))) pa_nil)) (pa_cons (pv 3) pa_nil))))
      (pss_one (ps_if (pt_cmpR op_notN (pv 6) pe_non (nomark _)) (pss_one (ps_ret (pe_tup (pa_cons (pv 6) (pa_cons (pv 5) (pa_cons (pv 2) pa_nil)))))) pss_nil))))))))
      (pss_one (ps_ret pe_non)))), ?_⟩
  rintro xs M Φ ⟨S, m, n, hS, m4, h01, rfl, fin⟩
  have n5 := hS.n5
  refine xs_seq <| xs_set <| xp_call <| xa_cons <| xp_var rfl <| xa_nil ⟨S, m, n, hS, h01, rfl, ?_⟩
  have hpl : (ptsN S m n).length = m + n := by unfold ptsN; simp
  generalize hpts : ptsN S m n = pts at hpl fin
  have hp9 : pts.length ≤ 9 := by omega
  refine xs_seq (xs_forD (l := picksN pts.length 7) (enc := pD) [2] (fun i ds' M' => ∃ a b c d e f g h, M' = M ∧ ds' = [some (.dat (tabD S)), some (.dat (nD pts)), a, b, c, d, e, f, g, h] ∧ ∀ kept ∈ (picksN pts.length 7).take i, ∀ taken ∈ takensN (restN pts.length kept), ¬ GoodP (taken.map fun k => pts.getD k 0) (kept.map fun k => pts.getD k 0)) ?_ ⟨_, _, _, _, _, _, _, _, rfl, rfl, fun k hk => (by rw [List.take_zero] at hk; cases hk)⟩ ?_ ?_)
  · refine xd_list <| xp_call <| xa_cons <| xp_cb <| xa_cons <| xp_var rfl <| xa_nil <| xc_len (.dat _) <| xa_cons <| xp_int <| xa_nil ⟨pts.length, 7, by omega, by decide, ?_, rfl, rfl⟩
    rw [List.length_map, List.length_map]; rfl
  · rintro i kept ds' M' hi ⟨a, b, c, d, e, f, g, h, rfl, rfl, bad⟩
    obtain ⟨hk7, hkin⟩ := picks_all pts.length (by omega) 7 (by decide) kept (List.mem_of_getElem? hi)
    have hkr : Rise pts.length kept := ((mem_picksN 7 kept).mp (List.mem_of_getElem? hi)).2
    refine xg_name (by decide) <| xs_seq <| xs_set <| xp_call <| xa_cons <| xp_var rfl <| xa_cons <| xp_var rfl <| xa_nil ⟨pts, kept, by omega, hkin, rfl, ?_⟩
    refine xs_seq <| xs_set ?_
    refine xp_lcD (l := List.range pts.length) (enc := fun i : Nat => .int i) (fun x => if x ∉ kept then some (.int (x : Nat)) else none) (xd_len0 (by omega) <| xa_cons <| xp_cb <| xa_cons <| xp_var rfl <| xa_nil <| xc_len (.dat _) <| xa_nil ⟨by rw [List.length_map, List.length_map], rfl⟩) (by rw [List.length_range]; omega) ?_ ?_
    · intro x x' hx
      obtain ⟨hx', rfl⟩ := range_at hx
      refine xg_name (by decide) ⟨rfl, xt_tst <| xp_op <| xp_var rfl <| xp_var rfl <| xo_niD (.dat _) (.dat _) (shD.int _ _) (shD.mono (shD.nums 0 _) (by decide)) ⟨_, rfl, rfl, ?_, fun hb => ?_⟩⟩
      · rw [any_nat]
        by_cases z : x ∈ kept
        · rw [if_neg (fun q => q z), decide_eq_true z]; rfl
        · rw [if_pos z, decide_eq_false z]; rfl
      · rw [any_nat] at hb
        have z : x ∉ kept := fun z => by rw [decide_eq_true z] at hb; cases hb
        exact xp_var rfl ⟨rfl, _, if_pos z, rfl⟩
    · rw [filterMap_if (fun x => x ∉ kept) (fun x : Nat => PyData.int (x : Nat))]
      have er : (List.range pts.length).filter (fun x => decide (x ∉ kept)) = restN pts.length kept := rfl
      rw [er, listI]
      have hr2 : (restN pts.length kept).length ≤ 2 := by
        have h1 := nodup_le (l := kept ++ restN pts.length kept) (r := List.range pts.length) ?_ fun x hx => ?_
        · rw [List.length_append, List.length_range] at h1; omega
        · refine List.nodup_append.mpr ⟨hkr.lt.imp fun h => Nat.ne_of_lt h, (List.nodup_range).filter _, fun a ha b hb e => ?_⟩
          have := (List.mem_filter.mp hb).2
          rw [decide_eq_true_iff] at this
          exact this (e ▸ ha)
        · rcases List.mem_append.mp hx with hx | hx
          · exact List.mem_range.mpr (hkin x hx)
          · exact (List.mem_filter.mp hx).1
      have hrin : ∀ x ∈ restN pts.length kept, x < pts.length := fun x hx => List.mem_range.mp (List.mem_filter.mp hx).1
      generalize hrest : restN pts.length kept = rest at hr2 hrin
      have hbad : ∀ taken ∈ takensN rest, True := fun _ _ => trivial
      refine xs_forD (l := takensN rest) (enc := pD) [5] (fun j ds' M2 => ∃ d f g h k, M2 = M' ∧ ds' = [some (.dat (tabD S)), some (.dat (nD pts)), some (.dat (pD kept)), some (.dat (.list ((ksumsN (kept.map fun k => pts.getD k 0)).map wsD))), some (.dat (nD rest)), d, f, g, h, k] ∧ ∀ taken ∈ (takensN rest).take j, ¬ GoodP (taken.map fun k => pts.getD k 0) (kept.map fun k => pts.getD k 0)) ?_ ⟨_, _, _, _, _, rfl, rfl, fun k hk => (by rw [List.take_zero] at hk; cases hk)⟩ ?_ ?_
      · refine xd_list ?_
        have few : ((List.range (rest.length + 1)).flatMap fun s => (picksN rest.length s).map fun p => pD (p.map fun k => rest.getD k 0)).length ≤ 16 := by
          have := takens_few rest.length (by omega)
          refine Nat.le_trans (Nat.le_of_eq ?_) this
          simp [List.length_flatMap]
        refine xp_lc2D (l := List.range (rest.length + 1)) (enc := fun i : Nat => .int i) (fun s => picksN rest.length s) pD (fun _ p => pD (p.map fun k => rest.getD k 0)) (xd_len0 (n := rest.length + 1) (by omega) <| xa_cons <| xp_op <| xp_cb <| xa_cons <| xp_var rfl <| xa_nil <| xc_len (.dat _) <| xp_int <| xo_i0 <| xa_nil ⟨by rw [List.length_map, List.length_map]; rfl, rfl⟩) ?_ (by omega) ⟨?_, rfl⟩
        · intro s s' hs
          obtain ⟨hs', rfl⟩ := range_at hs
          refine xg_name (by decide) ⟨rfl, xd_list <| xp_call <| xa_cons <| xp_cb <| xa_cons <| xp_var rfl <| xa_nil <| xc_len (.dat _) <| xa_cons <| xp_var rfl <| xa_nil ⟨rest.length, s, by omega, by omega, by rw [List.length_map, List.length_map], rfl, rfl⟩, fun j p hp => ?_⟩
          obtain ⟨hpl, hpin⟩ := picks_all rest.length (by omega) s (by omega) p (List.mem_of_getElem? hp)
          refine xg_name (by decide) ⟨rfl, ?_⟩
          refine xp_mapD (l := p) (enc := fun x : Nat => .int x) (fun k => .int ((rest.getD k 0 : Nat) : Int)) (by rw [listI]; exact xd_var rfl) (by omega) ?_ ⟨rfl, ?_⟩
          · intro q x hx
            have hxr := hpin x (List.mem_of_getElem? hx)
            exact xg_name (by decide) ⟨rfl, xp_op <| xp_var rfl <| xp_var rfl <| xo_ixL (d := .int (rest.getD x 0 : Nat)) (nD_at (by rw [List.getD_eq_getElem?_getD, List.getElem?_eq_getElem hxr]; rfl)) ⟨rfl, rfl⟩⟩
          · rw [mapI]
        · rw [takensN, List.map_flatMap]
          simp only [List.map_map]; rfl
      · rintro j taken ds' M2 hj ⟨d, f, g, h, k, rfl, rfl, bad2⟩
        have htk : taken.length ≤ 2 ∧ ∀ x ∈ taken, x < pts.length := by
          obtain ⟨s, hs, ht⟩ := List.mem_flatMap.mp (List.mem_of_getElem? hj)
          obtain ⟨p, hp, rfl⟩ := List.mem_map.mp ht
          have hs' := List.mem_range.mp hs
          obtain ⟨hpl, hpin⟩ := picks_all rest.length (by omega) s (by omega) p hp
          refine ⟨by rw [List.length_map]; omega, fun x hx => ?_⟩
          obtain ⟨y, hy, rfl⟩ := List.mem_map.mp hx
          have := hpin y hy
          refine hrin _ ?_
          rw [List.getD_eq_getElem?_getD, List.getElem?_eq_getElem this]
          exact List.getElem_mem _
        have hkl := kfold_len (kept.map fun k => pts.getD k 0)
        rw [List.length_map, hk7] at hkl
        have hxl := xsums_len (taken.map fun k => pts.getD k 0)
        have hx4 : 2 ^ (taken.map fun k => pts.getD k 0).length ≤ 2 ^ 2 := Nat.pow_le_pow_right (by decide) (by rw [List.length_map]; exact htk.1)
        have h4 : (2 : Nat) ^ 2 = 4 := rfl
        have h7 : (2 : Nat) ^ 7 = 128 := rfl
        refine xg_name (by decide) <| xs_seq <| xs_set <| xp_call <| xa_cons <| xp_call <| xa_cons ?_
        refine xp_mapD (l := taken) (enc := fun x : Nat => .int x) (fun k => .int ((pts.getD k 0 : Nat) : Int)) (by rw [listI]; exact xd_var rfl) (by omega) ?_ ?_
        · intro q x hx
          have hxr := htk.2 x (List.mem_of_getElem? hx)
          exact xg_name (by decide) ⟨rfl, xp_op <| xp_var rfl <| xp_var rfl <| xo_ixL (d := .int (pts.getD x 0 : Nat)) (nD_at (by rw [List.getD_eq_getElem?_getD, List.getElem?_eq_getElem hxr]; rfl)) ⟨rfl, rfl⟩⟩
        · rw [mapI]
          refine xa_nil ⟨taken.map fun k => pts.getD k 0, by rw [List.length_map]; omega, rfl, xa_cons <| xp_var rfl <| xa_nil ⟨_, _, by omega, ?_, rfl, fun kd hkd hgood => ?_⟩⟩
          · unfold ksumsN; rw [List.length_drop]; omega
          · refine xs_if <| xt_tst <| xp_op <| xp_var rfl <| xp_non ?_
            by_cases he : kd = .none
            · refine xo_notN false (by simp [he]) ⟨_, rfl, no rfl <| xs_nil ⟨_, _, _, _, _, rfl, rfl, fun t ht => ?_⟩⟩
              rw [List.take_add_one, hj] at ht
              rcases List.mem_append.mp ht with ht | ht
              · exact bad2 t ht
              · obtain rfl : t = taken := by simpa using ht
                exact fun hg => hgood hg he
            · refine xo_notN true (by simp [he]) ⟨_, rfl, yes rfl ?_⟩
              refine xs_ret <| xp_tup <| xa_cons <| xp_var rfl <| xa_cons <| xp_var rfl <| xa_cons <| xp_var rfl <| xa_nil ⟨[_, _, _], rfl, (show 3 ≤ 100000 by decide), fin _ (.inr ?_) fun _ z => by cases z⟩
              rcases hkd with rfl | rfl | rfl
              · exact absurd rfl he
              · exact ⟨_, _, _, .inl rfl, rfl⟩
              · exact ⟨_, _, _, .inr rfl, rfl⟩
      · rintro ds' M2 ⟨d, f, g, h, k, rfl, rfl, bad2⟩
        rw [List.take_length] at bad2
        refine ⟨_, _, _, _, _, _, _, _, rfl, rfl, fun k hk => ?_⟩
        rw [List.take_add_one, hi] at hk
        rcases List.mem_append.mp hk with hk | hk
        · exact bad k hk
        · obtain rfl : k = kept := by simpa using hk
          rw [hrest]; exact bad2
  · rintro ds' M' ⟨a, b, c, d, e, f, g, h, rfl, rfl, bad⟩
    rw [List.take_length] at bad
    refine xs_ret <| xp_non <| fin _ (.inl rfl) ?_
    rintro ⟨kept, hk, taken, ht, hg⟩
    exact absurd hg (bad kept hk taken ht)
end
end K62
end
section
set_option Elab.async false
set_option linter.all false
set_option maxRecDepth 100000
set_option maxHeartbeats 4000000
set_option autoImplicit false
namespace K62
open PySem L2
section
variable {P : Program} {w : World} {K : PySem.W.Frag} {mg : Str → Option Value} {base : Heap}
abbrev sgS : Str := Str.ofString "signed"
def p_signed (pF : Addr) : SpP := fun xs M Φ => ∃ (S : Tab) (m n : Nat), Rect S m n ∧ m ≤ 4 ∧ Ones S ∧ TabM M pF lamN ∧ xs = [.dat (tabD S)] ∧ ∀ F M', Forced S F m n → TabM M' pF lamN → SubP pF M M' →
  ∀ d, (Uni F m n → d = .tuple [.str sgS, tabD F]) → (¬ Uni F m n → PieceD d ∧ (HasPiece (ptsN S m n) → d ≠ .none)) → Φ (.dat d) M'
theorem ok_signed (T : Txt w K mg) (tab : LamX.TabB base mg T.cF T.pF) : FnOk P w K mg base CX0 11 T.d_signed.f T.d_signed.fd ["table"] (spE K (p_signed T.pF)) := by
  refine fn_ok T.d_signed.F sc_signed (fun xs M Φ ⟨_, _, _, _, _, _, _, h, _⟩ => by rw [h]; rfl) fun cdv A outer s H E hr => ?_
  have nd := sc_signed.nd
  have ok_forced_signs := fun (_ : Txt w K mg) => ok_forced_signs (P := P) T tab
  refine ⟨_, (pss_cons (ps_expr (pe_call (ok_check_small T) (hr.mono (by first | decide | omega)) rfl T.d_check_small.m T.d_check_small.F.kp T.d_check_small.b .nil pass0 (pa_cons (pv 0) pa_nil)))
      (pss_cons (ps_set (i := 1) nd rfl (Or.inl rfl) (pe_call (ok_forced_signs T) (hr.mono (by first | decide | omega)) rfl T.d_forced_signs.m T.d_forced_signs.F.kp T.d_forced_signs.b .nil pass0 (pa_cons (pv 0) pa_nil)))
      (pss_cons (ps_if (pt_val (pe_call (ok_is_unimodular T) (hr.mono (by first | decide | omega)) rfl T.d_is_unimodular.m T.d_is_unimodular.F.kp T.d_is_unimodular.b .nil pass0 (pa_cons (pv 1) pa_nil))) (pss_one (ps_ret (pe_tup (pa_cons pe_str (pa_cons (pv 1) pa_nil))))) pss_nil)
      (pss_one (ps_ret (pe_call (ok_piece_by_twos T) (hr.mono (by first | decide | omega)) rfl T.d_piece_by_twos.m T.d_piece_by_twos.F.kp T.d_piece_by_twos.b .nil pass0 (pa_cons (pv 0) pa_nil))))))), ?_⟩
  rintro xs M Φ ⟨S, m, n, hS, m4, h01, hT, rfl, fin⟩
  refine xs_seq <| xs_drop <| xp_call <| xa_cons <| xp_var rfl <| xa_nil ⟨S, m, n, hS, h01, rfl, ?_⟩
  refine xs_seq <| xs_set <| xp_call <| xa_cons <| xp_var rfl <| xa_nil ⟨S, m, n, hS, h01, hT, rfl, fun F M' hF hT' hsub => ?_⟩
  refine xs_seq <| xs_if <| xt_tst <| xp_call <| xa_cons <| xp_var rfl <| xa_nil ⟨F, m, n, hF.rect, rfl, fun b hb => ⟨_, rfl, fun e => ?_, fun e => ?_⟩⟩
  · have hu := hb.mp e
    exact xs_ret <| xp_tup <| xa_cons <| xp_str <| xa_cons <| xp_var rfl <| xa_nil ⟨[_, _], rfl, (show 2 ≤ 100000 by decide), fin F M' hF hT' hsub _ (fun _ => rfl) fun z => absurd hu z⟩
  · have hu : ¬ Uni F m n := fun h => by rw [hb.mpr h] at e; cases e
    exact xs_nil <| xs_ret <| xp_call <| xa_cons <| xp_var rfl <| xa_nil ⟨S, m, n, hS, m4, h01, rfl, fun d hd hp => fin F M' hF hT' hsub d (fun h => absurd h hu) fun _ => ⟨hd, hp⟩⟩
end
end K62
end
section
set_option Elab.async false
set_option linter.all false
set_option maxRecDepth 100000
set_option maxHeartbeats 4000000
set_option autoImplicit false
namespace K62
open PySem L2
/-! ### the source of draws -/
def Src (M : MH) (p : Addr) (N : Nat) : Prop := ∃ a b c : Int, M p = some (rowM [a, b, c]) ∧ 0 ≤ b ∧ b < 2147483647 ∧ 0 ≤ c ∧ c ≤ N
theorem Src.mono {M : MH} {p : Addr} {N N' : Nat} (h : Src M p N) (e : N ≤ N') : Src M p N' := by
  obtain ⟨a, b, c, h1, h2, h3, h4, h5⟩ := h
  exact ⟨a, b, c, h1, h2, h3, h4, by omega⟩
theorem Src.up {M : MH} {p z : Addr} {N : Nat} {o : MO} (h : Src M p N) (e : z ≠ p) : Src (M.up z o) p N := by
  obtain ⟨a, b, c, h1, h2⟩ := h
  exact ⟨a, b, c, by rw [MH.up_ne e.symm]; exact h1, h2⟩
theorem Src.new {M : MH} {p z : Addr} {N : Nat} {o : MO} (h : Src M p N) (e : M z = none) : Src (M.up z o) p N := h.up fun q => by
  obtain ⟨a, b, c, h1, _⟩ := h
  rw [q, h1] at e; cases e
theorem Src.some {M : MH} {p : Addr} {N : Nat} (h : Src M p N) : ∃ o, M p = some o := let ⟨_, _, _, h1, _⟩ := h; ⟨_, h1⟩
theorem SubP.none {p : Addr} {M M' : MH} (h : SubP p M M') {z : Addr} (hz : M' z = none) (e : z ≠ p) : M z = none := by
  cases q : M z with
  | none => rfl
  | some o => rw [h z o e q] at hz; cases hz
theorem Src.fresh {M M' : MH} {p z : Addr} {N N' : Nat} (h : Src M p N) (h' : Src M' p N') (s : SubP p M M') (hz : M' z = none) : M z = none := s.none hz fun e => by
  obtain ⟨o, ho⟩ := h'.some
  rw [e, ho] at hz; cases hz
theorem primes_in : ∀ k, k < 7 → ∃ q : Int, (nums [2147483647, 2147483629, 2147483587, 2147483579, 2147483563, 2147483549, 2147483543])[k]? = some (.int q) ∧ 0 < q ∧ q ≤ 2147483647 := fun k hk => by
  match k, hk with
  | 0, _ => exact ⟨2147483647, rfl, by decide, by decide⟩
  | 1, _ => exact ⟨2147483629, rfl, by decide, by decide⟩
  | 2, _ => exact ⟨2147483587, rfl, by decide, by decide⟩
  | 3, _ => exact ⟨2147483579, rfl, by decide, by decide⟩
  | 4, _ => exact ⟨2147483563, rfl, by decide, by decide⟩
  | 5, _ => exact ⟨2147483549, rfl, by decide, by decide⟩
  | 6, _ => exact ⟨2147483543, rfl, by decide, by decide⟩
theorem modN (x : Int) {m : Nat} (h : 0 < m) : ∃ r : Nat, r < m ∧ x % (m : Int) = (r : Nat) := by
  have h1 := Int.emod_nonneg x (b := (m : Int)) (by omega)
  have h2 := Int.emod_lt_of_pos x (b := (m : Int)) (by omega)
  exact ⟨(x % (m : Int)).toNat, by omega, by omega⟩
theorem perm_at {α : Type} : ∀ {l : List α} {r : Nat} {x : α}, l[r]? = some x → ([x] ++ l.eraseIdx r).Perm l
  | [], _, _, h => by cases h
  | a :: l, 0, x, h => by cases h; exact .refl _
  | a :: l, r + 1, x, h => by
    have h : l[r]? = some x := h
    exact (List.Perm.swap a x _).trans (.cons a (perm_at h))
section
variable {P : Program} {w : World} {K : PySem.W.Frag} {mg : Str → Option Value} {base : Heap}
def p_source_of : SpP := fun xs M Φ => ∃ c : Int, xs = [.dat (.int c)] ∧ ∀ p M', M p = none → Sub M M' → Src M' p 0 → Φ (.adr p) M'
theorem ok_law_source_of (T : Txt w K mg) : FnOk P w K mg base CX0 1 T.d_law_source_of.f T.d_law_source_of.fd ["_law_cell"] (spE K p_source_of) := by
  refine fn_ok T.d_law_source_of.F sc_law_source_of (fun xs M Φ ⟨_, h, _⟩ => by rw [h]; rfl) fun cdv A outer s H E hr => ?_
  have nd := sc_law_source_of.nd
  refine ⟨_, (pss_one (ps_ret (pe_lst (pa_cons (pe_op op_mul (pv 0) (pe_callTy call_int1 (by rfl) T.z_int (by decide +kernel) (pa_cons (pe_cmpR op_ge (pv 0) (pe_op op_pow pe_int pe_int) (nomark _)) pa_nil))) (pa_cons (pe_op op_mod (pv 0) pe_int) (pa_cons pe_int pa_nil)))))), ?_⟩
  rintro xs M Φ ⟨c, rfl, k⟩
  refine xs_ret <| xp_lstM <| xa_cons <| xp_op <| xp_var rfl <| xp_cb <| xa_cons <| xp_op <| xp_var rfl <| xp_op <| xp_int <| xp_int <| xo_iC ⟨by decide, by decide, by decide⟩ <| xo_b0 <| xa_nil <| xc_intB <| xo_iC (.inr (by split <;> decide)) <| xa_cons <| xp_op <| xp_var rfl <| xp_int <| xo_iC (by decide) <| xa_cons <| xp_int <| xa_nil ⟨(show 3 ≤ 100000 by decide), fun p hp => ?_⟩
  refine k p _ hp (Sub.up hp) ⟨_, c % 2147483647, 0, by rw [MH.up_same]; rfl, Int.emod_nonneg _ (by decide), Int.emod_lt_of_pos _ (by decide), Int.le_refl _, Int.le_refl _⟩
def p_next : SpP := fun xs M Φ => ∃ (p : Addr) (N many : Nat), 0 < many ∧ many ≤ 1000 ∧ N < 1000000 ∧ Src M p N ∧ xs = [.adr p, .dat (.int many)] ∧ ∀ r M', r < many → Src M' p (N + 1) → SubP p M M' → Φ (.dat (.int (r : Nat))) M'
theorem ok_law_next (T : Txt w K mg) : FnOk P w K mg base CX0 1 T.d_law_next.f T.d_law_next.fd ["_law_source", "_law_many"] (spE K p_next) := by
  refine fn_ok T.d_law_next.F sc_law_next (fun xs M Φ ⟨_, _, _, _, _, _, _, h, _⟩ => by rw [h]; rfl) fun cdv A outer s H E hr => ?_
  have nd := sc_law_next.nd
  refine ⟨_, (pss_cons (ps_if (pt_cmpR op_gt (pe_ix (k_ix (K := K) rfl) (pv 0) pe_int (fun _ _ => rfl)) pe_int (nomark _)) (pss_cons (ps_set (i := 2) nd rfl (Or.inl rfl) (pe_op op_mod (pe_ix (k_ix (K := K) rfl) (pv 0) pe_int (fun _ _ => rfl)) (pv 1)))
      (pss_cons (ps_asg (pe_op op_fdivW (pe_ix (k_ix (K := K) rfl) (pv 0) pe_int (fun _ _ => rfl)) (pv 1)) (pg_sub (pv 0) pe_int set_list))
      (pss_one (ps_ret (pv 2))))) pss_nil)
      (pss_cons (ps_asg (pe_op op_add (pe_ix (k_ix (K := K) rfl) (pv 0) pe_int (fun _ _ => rfl)) pe_int) (pg_sub (pv 0) pe_int set_list))
      (pss_cons (ps_set (i := 3) nd rfl (Or.inl rfl) (pe_ix (k_ix (K := K) rfl) (pe_lst (pa_cons pe_int (pa_cons pe_int (pa_cons pe_int (pa_cons pe_int (pa_cons pe_int (pa_cons pe_int (pa_cons pe_int pa_nil)))))))) (pe_op op_mod (pe_ix (k_ix (K := K) rfl) (pv 0) pe_int (fun _ _ => rfl)) pe_int) (fun _ _ => rfl)))
      (pss_cons (ps_set (i := 4) nd rfl (Or.inl rfl) (pe_op op_mod (pe_op op_pow (pe_op op_add (pe_op op_add (pe_ix (k_ix (K := K) rfl) (pv 0) pe_int (fun _ _ => rfl)) (pe_op op_mul pe_int (pe_ix (k_ix (K := K) rfl) (pv 0) pe_int (fun _ _ => rfl)))) pe_int) pe_int) (pv 3)))
      (pss_cons (ps_set (i := 4) nd rfl (Or.inl rfl) (pe_op op_mod (pe_op op_mul (pe_op op_add (pv 4) (pe_ix (k_ix (K := K) rfl) (pv 0) pe_int (fun _ _ => rfl))) (pe_op op_add (pe_op op_fdivW (pv 4) pe_int) pe_int)) (pv 3)))
      (pss_one (ps_ret (pe_op op_mod (pe_op op_fdivW (pv 4) pe_int) (pv 1))))))))), ?_⟩
  rintro xs M Φ ⟨p, N, many, m0, m1, hN, ⟨a, b, c, hp, b0, b1, c0, c1⟩, rfl, k⟩
  have small : (many : Int).natAbs.log2 < 9000 := by
    rw [Int.natAbs_natCast]
    have h1 := Nat.log2_lt (n := many) (k := 9000) (by omega)
    refine h1.mpr (Nat.lt_of_le_of_lt m1 ?_)
    exact Nat.lt_of_lt_of_le (show 1000 < 2 ^ 10 by decide) (Nat.pow_le_pow_right (by decide) (show 10 ≤ 9000 by decide))
  have rd : ∀ {M' : MH} {x y z : Int} {Φ : Ds → MH → Prop}, M' p = some (rowM [x, y, z]) → Φ (.dat (.int x)) M' → Xo K (rIx K) (.adr p) (.dat (.int 0)) M' Φ := fun h k => xo_ixM h (at_nat (j := 0) rfl) k
  have rd1 : ∀ {M' : MH} {x y z : Int} {Φ : Ds → MH → Prop}, M' p = some (rowM [x, y, z]) → Φ (.dat (.int y)) M' → Xo K (rIx K) (.adr p) (.dat (.int 1)) M' Φ := fun h k => xo_ixM h (at_nat (j := 1) rfl) k
  have rd2 : ∀ {M' : MH} {x y z : Int} {Φ : Ds → MH → Prop}, M' p = some (rowM [x, y, z]) → Φ (.dat (.int z)) M' → Xo K (rIx K) (.adr p) (.dat (.int 2)) M' Φ := fun h k => xo_ixM h (at_nat (j := 2) rfl) k
  have sub1 : ∀ {o : MO}, SubP p M (M.up p o) := fun {o} b u hb e => by rw [MH.up_ne hb]; exact e
  refine xs_seq <| xs_if <| xt_tst <| xp_op <| xp_op <| xp_var rfl <| xp_int <| rd hp <| xp_int <| xo_b0 ⟨_, rfl, fun _ => ?_, fun _ => xs_nil ?_⟩
  · refine xs_seq <| xs_set <| xp_op <| xp_op <| xp_var rfl <| xp_int <| rd hp <| xp_var rfl <| xo_iC (by omega) ?_
    refine xs_seq <| xs_asg (vs := []) <| xp_op <| xp_op <| xp_var rfl <| xp_int <| rd hp <| xp_var rfl <| xo_iC ⟨by omega, small⟩ <| xg_setL <| xp_var rfl <| xp_int ⟨p, _, 0, rfl, rfl, hp, (show 0 < 3 by decide), ?_⟩
    obtain ⟨r, hr, er⟩ := modN a m0
    refine xs_ret <| xp_var rfl ?_
    rw [er]
    exact k r _ hr ⟨a / many, b, c, MH.up_same, b0, b1, c0, by omega⟩ sub1
  · refine xs_seq <| xs_asg (vs := []) <| xp_op <| xp_op <| xp_var rfl <| xp_int <| rd2 hp <| xp_int <| xo_i0 <| xg_setL <| xp_var rfl <| xp_int ⟨p, _, 2, rfl, rfl, hp, (show 2 < 3 by decide), ?_⟩
    have hp2 : (M.up p (.lst ((dats (nums [a, b, c])).set 2 (.dat (.int (c + 1)))))) p = some (rowM [a, b, c + 1]) := MH.up_same
    obtain ⟨j, hj, ej⟩ := modN (c + 1) (m := 7) (by decide)
    obtain ⟨q, hq, q0, q1⟩ := primes_in j hj
    refine xs_seq <| xs_set <| xp_op <| xp_lst <| xa_cons <| xp_int <| xa_cons <| xp_int <| xa_cons <| xp_int <| xa_cons <| xp_int <| xa_cons <| xp_int <| xa_cons <| xp_int <| xa_cons <| xp_int <| xa_nil ⟨nums [2147483647, 2147483629, 2147483587, 2147483579, 2147483563, 2147483549, 2147483543], rfl, (show 7 ≤ 100000 by decide), ?_⟩
    refine xp_op <| xp_op <| xp_var rfl <| xp_int <| rd2 hp2 <| xp_int <| xo_iC (by decide) ?_
    have ej' : (c + 1) % 7 = ((j : Nat) : Int) := ej
    rw [ej']
    refine xo_ixL (d := .int q) (at_nat hq) ?_
    refine xs_seq <| xs_set <| xp_op <| xp_op <| xp_op <| xp_op <| xp_op <| xp_var rfl <| xp_int <| rd1 hp2 <| xp_op <| xp_int <| xp_op <| xp_var rfl <| xp_int <| rd2 hp2 <| xo_iC (.inl ⟨by decide, by decide⟩) <| xo_i0 <| xp_int <| xo_i0 <| xp_int <| xo_iC ⟨by decide, by decide, by omega⟩ <| xp_var rfl <| xo_iC (by omega) ?_
    generalize hf : (b + 7919 * (c + 1) + 1) ^ (5 : Int).toNat % q = f1
    have f0 : 0 ≤ f1 := by rw [← hf]; exact Int.emod_nonneg _ (by omega)
    have f2 : f1 < q := by rw [← hf]; exact Int.emod_lt_of_pos _ q0
    refine xs_seq <| xs_set <| xp_op <| xp_op <| xp_op <| xp_var rfl <| xp_op <| xp_var rfl <| xp_int <| rd2 hp2 <| xo_i0 <| xp_op <| xp_op <| xp_var rfl <| xp_int <| xo_iC ⟨by decide, by decide⟩ <| xp_int <| xo_i0 <| xo_iC (.inl ⟨by omega, by omega⟩) <| xp_var rfl <| xo_iC (by omega) ?_
    refine xs_ret <| xp_op <| xp_op <| xp_var rfl <| xp_int <| xo_iC ⟨by decide, by decide⟩ <| xp_var rfl <| xo_iC (by omega) ?_
    obtain ⟨r, hr, er⟩ := modN ((f1 + (c + 1)) * (f1 / 1009 + 69621) % q / 7) m0
    rw [er]
    exact k r _ hr ⟨a, b, c + 1, hp2, b0, b1, by omega, by omega⟩ sub1
def p_one : SpP := fun xs M Φ => ∃ (p : Addr) (N : Nat) (es : List PyData), es ≠ [] ∧ es.length ≤ 1000 ∧ N < 1000000 ∧ Src M p N ∧ xs = [.adr p, .dat (.list es)] ∧ ∀ d M', d ∈ es → Src M' p (N + 1) → SubP p M M' → Φ (.dat d) M'
theorem ok_law_one (T : Txt w K mg) : FnOk P w K mg base CX0 2 T.d_law_one.f T.d_law_one.fd ["_law_source", "_law_some"] (spE K p_one) := by
  refine fn_ok T.d_law_one.F sc_law_one (fun xs M Φ ⟨_, _, _, _, _, _, _, h, _⟩ => by rw [h]; rfl) fun cdv A outer s H E hr => ?_
  have nd := sc_law_one.nd
  refine ⟨_, (pss_one (ps_ret (pe_ix (k_ix (K := K) rfl) (pv 1) (pe_call (ok_law_next T) (hr.mono (by first | decide | omega)) rfl T.d_law_next.m T.d_law_next.F.kp T.d_law_next.b .nil pass0 (pa_cons (pv 0) (pa_cons (pe_callB (k_len (K := K) rfl) (by rfl) T.z_len (by decide +kernel) (pa_cons (pv 1) pa_nil)) pa_nil))) (fun _ _ => rfl)))), ?_⟩
  rintro xs M Φ ⟨p, N, es, h0, h1, hN, src, rfl, k⟩
  refine xs_ret <| xp_op <| xp_var rfl <| xp_call <| xa_cons <| xp_var rfl <| xa_cons <| xp_cb <| xa_cons <| xp_var rfl <| xa_nil <| xc_len (.dat _) <| xa_nil ⟨p, N, es.length, List.length_pos_iff.mpr h0, h1, hN, src, rfl, fun r M' hr s' sub => ?_⟩
  exact xo_ixL (at_nat (List.getElem?_eq_getElem hr)) <| k _ M' (List.getElem_mem hr) s' sub
def p_cell_at : SpP := fun xs M Φ => ∃ (ns : List Int) (i : Nat), xs = [.sq ns, .dat (.int i)] ∧ Φ (.dat (.int (ns.getD i 0))) M
theorem ok_law_cell_at (T : Txt w K mg) : FnOk P w K mg base CX0 1 T.d_law_cell_at.f T.d_law_cell_at.fd ["_law_script", "_law_k"] (spE K p_cell_at) := by
  refine fn_ok T.d_law_cell_at.F sc_law_cell_at (fun xs M Φ ⟨_, _, h, _⟩ => by rw [h]; rfl) fun cdv A outer s H E hr => ?_
  have nd := sc_law_cell_at.nd
  refine ⟨_, (pss_cons (ps_if (pt_cmpR op_lt (pv 1) (pe_callB (k_len (K := K) rfl) (by rfl) T.z_len (by decide +kernel) (pa_cons (pv 0) pa_nil)) (nomark _)) (pss_one (ps_ret (pe_ix (k_ix (K := K) rfl) (pv 0) (pv 1) (fun _ _ => rfl)))) pss_nil)
      (pss_one (ps_ret pe_int))), ?_⟩
  rintro xs M Φ ⟨ns, i, rfl, k⟩
  refine xs_seq <| xs_if <| xt_tst <| xp_op <| xp_var rfl <| xp_cb <| xa_cons <| xp_var rfl <| xa_nil <| xc_lenS <| xo_b0 ⟨_, rfl, fun h => ?_, fun h => ?_⟩
  · have h := of_decide_eq_true h
    have hi : i < ns.length := by omega
    have e : ns[i]? = some (ns.getD i 0) := by rw [List.getD_eq_getElem?_getD, List.getElem?_eq_getElem hi]; rfl
    exact xs_ret <| xp_op <| xp_var rfl <| xp_var rfl <| xo_ixS (at_nat e) k
  · have h := of_decide_eq_false h
    rw [List.getD_eq_getElem?_getD, List.getElem?_eq_none (by omega)] at k
    exact xs_nil <| xs_ret <| xp_int k
def p_mixed : SpP := fun xs M Φ => ∃ (p : Addr) (N : Nat) (es : List PyData), es.length ≤ 100 ∧ (∀ d ∈ es, shD 60 d) ∧ N + es.length ≤ 1000000 ∧ Src M p N ∧ xs = [.adr p, .dat (.list es)] ∧
  ∀ es' f M', es'.Perm es → M f = none → M' f = some (.lst (dats es')) → Src M' p (N + es.length) → SubP p M M' → Φ (.adr f) M'
theorem ok_law_mixed (T : Txt w K mg) : FnOk P w K mg base CX0 2 T.d_law_mixed.f T.d_law_mixed.fd ["_law_source", "_law_some"] (spE K p_mixed) := by
  refine fn_ok T.d_law_mixed.F sc_law_mixed (fun xs M Φ ⟨_, _, _, _, _, _, _, h, _⟩ => by rw [h]; rfl) fun cdv A outer s H E hr => ?_
  have nd := sc_law_mixed.nd
  refine ⟨_, (pss_cons (ps_set (i := 2) nd rfl (Or.inl rfl) (pe_callTy (k_list (K := K) rfl) (by rfl) T.z_list (by decide +kernel) (pa_cons (pv 1) pa_nil)))
      (pss_cons (ps_set (i := 3) nd rfl (Or.inl rfl) (pe_lst pa_nil))
      (pss_cons (ps_while PassesOwn.never (pt_cmpR (k_ne (K := K) rfl (u64 hr)) (pv 2) (pe_lst pa_nil) (nomark _)) (pss_one (ps_expr (kbm (K := K) rfl (pe_bm PySem.F.plainAttrs_list PySem.F.slot_list_append PySem.F.type_list_append mt_append (pv 3) (pa_cons (kbm (K := K) rfl (pe_bm PySem.F.plainAttrs_list PySem.F.slot_list_pop PySem.F.type_list_pop mt_popAt (pv 2) (pa_cons (pe_call (ok_law_next T) (hr.mono (by first | decide | omega)) rfl T.d_law_next.m T.d_law_next.F.kp T.d_law_next.b .nil pass0 (pa_cons (pv 0) (pa_cons (pe_callB (k_len (K := K) rfl) (by rfl) T.z_len (by decide +kernel) (pa_cons (pv 2) pa_nil)) pa_nil))) pa_nil))) pa_nil))))))
      (pss_one (ps_ret (pv 3)))))), ?_⟩
  rintro xs M Φ ⟨p, N, es, hl, hsh, hN, src, rfl, k⟩
  refine xs_seq <| xs_set <| xp_cb <| xa_cons <| xp_var rfl <| xa_nil <| xc_listM fun l hlf => ?_
  refine xs_seq <| xs_set <| xp_lstM <| xa_nil ⟨Nat.zero_le _, fun f hff => ?_⟩
  have hfl : f ≠ l := fun e => by subst e; rw [MH.up_same] at hff; cases hff
  have hf0 : M f = none := by rw [MH.up_ne hfl] at hff; exact hff
  have lp : l ≠ p := fun e => by obtain ⟨o, ho⟩ := src.some; rw [e, ho] at hlf; cases hlf
  have fp : f ≠ p := fun e => by obtain ⟨o, ho⟩ := src.some; rw [e, ho] at hf0; cases hf0
  refine xs_seq <| xs_while (Wf := fun μ ds' M' => ∃ left done : List PyData, ds' = [some (.adr p), some (.dat (.list es)), some (.adr l), some (.adr f)] ∧ (done ++ left).Perm es ∧ M' l = some (.lst (dats left)) ∧ M' f = some (.lst (dats done)) ∧ Src M' p (N + done.length) ∧ SubP p M M' ∧ μ = left.length) _ ⟨es, [], rfl, by simp, by rw [MH.up_ne hfl.symm, MH.up_same], MH.up_same, ((src.new hlf).up fp), ((Sub.up hlf).new hf0).p, rfl⟩ ?_
  rintro μ ds' M' ⟨left, dn, rfl, perm, hml, hmf, src', sub, rfl⟩
  have hsl : ∀ d ∈ left, shD 60 d := fun d hd => hsh d (perm.mem_iff.mp (List.mem_append_right _ hd))
  have hlen : dn.length + left.length = es.length := by rw [← List.length_append]; exact perm.length_eq
  refine xt_tst <| xp_op <| xp_var rfl <| xp_lst <| xa_nil ⟨[], rfl, Nat.zero_le _, xo_neD (.lst hml) (.dat _) (shD.mono (shD.list hsl) (by decide)) (shD.mono (shD.nil 0) (by decide)) ⟨_, rfl, fun hne => ?_, fun hnil => ?_⟩⟩
  · rw [eqv_nil] at hne
    have hpos : 0 < left.length := by
      cases left with
      | nil => cases hne
      | cons _ _ => exact Nat.succ_pos _
    refine ⟨fun ds' M' => ∃ left' done : List PyData, ds' = [some (.adr p), some (.dat (.list es)), some (.adr l), some (.adr f)] ∧ (done ++ left').Perm es ∧ M' l = some (.lst (dats left')) ∧ M' f = some (.lst (dats done)) ∧ Src M' p (N + done.length) ∧ SubP p M M' ∧ left'.length < left.length, ?_, ?_⟩
    · rintro ds2 M2 ⟨left', dn, h1, h2, h3, h4, h5, h6, h7⟩
      exact ⟨_, h7, left', dn, h1, h2, h3, h4, h5, h6, rfl⟩
    · refine xs_app <| xp_var rfl ⟨f, _, rfl, hmf, xp_pop <| xp_var rfl ⟨l, _, rfl, hml, xp_call <| xa_cons <| xp_var rfl <| xa_cons <| xp_cb <| xa_cons <| xp_var rfl <| xa_nil <| xc_lenM hml <| xa_nil ⟨p, N + dn.length, left.length, hpos, by omega, by omega, src', by rw [List.length_map], fun r M2 hr s2 sub2 => ?_⟩⟩⟩
      have hl2 := sub2 l _ lp hml
      have hf2 := sub2 f _ fp hmf
      have hget : left[r]? = some left[r] := List.getElem?_eq_getElem hr
      refine ⟨dats left, r, .dat left[r], rfl, by omega, hl2, by rw [List.getElem?_map, hget]; rfl, dats dn, by rw [MH.up_ne hfl]; exact hf2, by rw [List.length_map]; omega, left.eraseIdx r, dn ++ [left[r]], rfl, ?_, ?_, ?_, ?_, ?_, ?_⟩
      · refine List.Perm.trans ?_ perm
        rw [List.append_assoc]
        refine List.Perm.append_left dn ?_
        exact perm_at hget
      · rw [MH.up_ne hfl.symm, MH.up_same, erase_map]
      · rw [MH.up_same, dats, dats, List.map_append]; rfl
      · rw [List.length_append]
        exact (s2.up lp).up fp
      · exact ((sub.trans sub2).new hlf).new hf0
      · rw [List.length_eraseIdx_of_lt hr]; omega
  · rw [eqv_nil] at hnil
    obtain rfl : left = [] := by
      cases left with
      | nil => rfl
      | cons _ _ => cases hnil
    rw [List.append_nil] at perm
    refine xs_ret <| xp_var rfl <| k dn f M' perm hf0 hmf (by rw [← perm.length_eq]; exact src') sub
end
end K62
end
section
set_option Elab.async false
set_option linter.all false
set_option maxRecDepth 100000
set_option maxHeartbeats 4000000
set_option autoImplicit false
namespace K62
open PySem L2
variable {K : PySem.W.Frag}
theorem MH.del_ne {M : MH} {p b : Addr} (h : b ≠ p) : M.del p b = M b := by unfold MH.del; rw [if_neg h]
theorem SubP.del {p : Addr} {M M' : MH} (h : SubP p M M') {z : Addr} (hz : M z = Option.none) : SubP p M (M'.del z) := fun b o hb e => by
  rw [MH.del_ne (MH.ne e hz)]; exact h b o hb e
theorem Sub.del {M M' : MH} (h : Sub M M') {z : Addr} (hz : M z = Option.none) : Sub M (M'.del z) := fun b o e => by
  rw [MH.del_ne (MH.ne e hz)]; exact h b o e
theorem Src.del {M : MH} {p z : Addr} {N : Nat} (h : Src M p N) (e : z ≠ p) : Src (M.del z) p N := by
  obtain ⟨a, b, c, h1, h2⟩ := h
  exact ⟨a, b, c, by rw [MH.del_ne e.symm]; exact h1, h2⟩
theorem Src.ne {M : MH} {p z : Addr} {N : Nat} (h : Src M p N) (e : M z = Option.none) : z ≠ p := fun q => by
  obtain ⟨o, ho⟩ := h.some
  rw [q, ho] at e; cases e
/-- a slot's list changes no more -/
theorem SD.put {G : Hp} {σ : L2.St} {ds : DS} (sd : SD K G σ ds) {i : Nat} {x : Ds} (h : ∀ y, ds[i]? = some (some y) → ∀ v, Dv K G v y → Dv K G v x) (h0 : ∃ y, ds[i]? = some (some y)) : SD K G σ (ds.set i (some x)) where
  len := by rw [List.length_set]; exact sd.len
  at' := fun j z hz => by
    by_cases e : i = j
    · subst e
      obtain ⟨y, hy⟩ := h0
      have hl := (List.getElem?_eq_some_iff.mp hy).1
      rw [List.getElem?_set_self hl] at hz
      obtain rfl : x = z := by injection hz with hz; injection hz
      obtain ⟨v, h1, h2⟩ := sd.at' i y hy
      exact ⟨v, h1, h y hy v h2⟩
    · rw [List.getElem?_set_ne e] at hz
      exact sd.at' j z hz
theorem xs_frzV {t : TS} {ds : DS} {M : MH} {Δ : XE} {i : Nat} {p : Addr} {es : List PyData} (h0 : ds[i]? = some (some (.adr p))) (hp : M p = some (.lst (dats es))) (h : Xs K t (ds.set i (some (.dat (.list es)))) (M.del p) Δ) : Xs K t ds M Δ := fun σ G H sd I D e => by
  obtain ⟨G', s, d⟩ := Stp.freeze I hp
  refine h σ G' H ((sd.mono s.gg).put (fun y hy v hv => ?_) ⟨_, h0⟩) s.inn D (e.step s)
  rw [h0] at hy
  cases hy
  cases hv
  exact d
/-- a comprehension that may draw -/
theorem xp_draw {ds : DS} {M : MH} {Φ : Ds → MH → Prop} {wi : TI} {g : TG} {te : TE} {vs : List Nat} {α : Type} (enc : α → PyData) (R : α → PyData → Prop) (p : Addr) (c : Nat)
    (h : Xi K wi ds M fun n Gd Y M1 => ∃ (l : List α) (N : Nat), n = l.length ∧ (∀ M', SubP p M1 M' → Gd M') ∧ (∀ i x M2 M3, i < n → Y i x M2 M3 → M3 = M2 ∧ ∃ a, l[i]? = some a ∧ x = .dat (enc a)) ∧ l.length < 100000 ∧ Src M1 p N ∧
      (∀ (i : Nat) (a : α) (M' : MH), l[i]? = some a → SubP p M1 M' → Src M' p (N + c * i) → Xg K g vs (.dat (enc a)) (wipeD ds vs) M' fun ds2 M3 => M3 = M' ∧ Xp K te ds2 M' fun y M5 => SubP p M1 M5 ∧ Src M5 p (N + c * (i + 1)) ∧ ∃ d, y = .dat d ∧ R a d) ∧
      ∀ es M', Paired R l es → SubP p M1 M' → Src M' p (N + c * l.length) → (Φ (.dat (.list es)) M' ∨ ∀ q, M' q = none → Φ (.adr q) (M'.up q (.lst (dats es))))) : Xp K (tLc wi g tYes te vs) ds M Φ := by
  refine xp_lc fun σ G H sd I Q q => h σ G H sd I Q fun J n Gd Y M' G' H' s wk ⟨l, N, en, eg, hy, hl, src, body, k⟩ => q J n Gd Y M' G' H' s wk ?_
  subst en
  refine ⟨fun i acc M2 => SubP p M' M2 ∧ Src M2 p (N + c * i) ∧ ∃ es, acc = dats es ∧ Paired R (l.take i) es, ⟨SubP.refl _ _, by rw [Nat.mul_zero]; exact src, [], rfl, by rw [List.take_zero]; exact .nil⟩, fun _ _ M2 _ iv => eg M2 iv.1, fun i acc M2 hi ⟨_, _, es, e, hp⟩ => ?_, fun i x acc M2 M3 hi ⟨e1, s1, es, e2, hp⟩ y => ?_, fun acc M2 ⟨e1, s1, es, e2, hp⟩ => ?_⟩
  · rw [e, List.length_map, ← hp.length, List.length_take]; omega
  · obtain ⟨e3, a, ha, ex⟩ := hy i x M2 M3 hi y
    subst e2 e3 ex
    intro σ G H v sd I dv Q q
    refine body i a M3 ha e1 s1 σ G H v sd I dv Q fun σ' ds' M' G' H' ag sd' s' ⟨em, ht⟩ => q σ' ds' M' G' H' ag sd' s' ?_
    subst em
    refine xt_yes ⟨fun _ => xp_mono ht fun y M5 ⟨em, s5, d, ey, hr⟩ => ⟨em, s5, es ++ [d], ?_, ?_⟩, fun h => by cases h⟩
    · rw [ey, dats, dats, List.map_append]; rfl
    · rw [List.take_add_one, ha]
      exact Paired.app hp (.cons hr .nil)
  · rw [List.take_length] at hp
    rcases k es M2 hp e1 s1 with h | h
    · exact .inl ⟨es, e2, h⟩
    · exact .inr fun q hq => by rw [e2]; exact h q hq
theorem ev_list {es : List PyData} {α : Type} {l : List α} {enc : α → PyData} (e : es = l.map enc) : ∀ i x M2 M3, i < es.length → YI (dats es) i x M2 M3 → M3 = M2 ∧ ∃ a, l[i]? = some a ∧ x = .dat (enc a) := fun i x M2 M3 _ y => by
  subst e
  obtain ⟨h1, d, hd, ex⟩ := yi_dat i x M2 M3 y
  obtain ⟨a, ha, rfl⟩ := map_inv hd
  exact ⟨h1, a, ha, ex⟩
theorem ev_rng {n : Nat} {z : Int} (hz : z = (n : Nat)) : ∀ i x M2 M3, i < z.toNat → YR 0 i x M2 M3 → M3 = M2 ∧ ∃ a, (List.range n)[i]? = some a ∧ x = .dat (.int (a : Nat)) := fun i x M2 M3 hi ⟨h, e⟩ => by
  refine ⟨e, i, List.getElem?_range (by omega), ?_⟩
  rw [h, Int.zero_add]
theorem Paired.mem2 {α β : Type} {R : α → β → Prop} : ∀ {l : List α} {r : List β}, Paired R l r → ∀ b ∈ r, ∃ a ∈ l, R a b
  | _, _, .nil, b, h => by cases h
  | _, _, .cons h t, b, hb => by
    rcases List.mem_cons.mp hb with rfl | hb
    · exact ⟨_, List.mem_cons_self .., h⟩
    · obtain ⟨a, h1, h2⟩ := Paired.mem2 t b hb
      exact ⟨a, List.mem_cons_of_mem _ h1, h2⟩
end K62
end
section
set_option Elab.async false
set_option linter.all false
set_option maxRecDepth 100000
set_option maxHeartbeats 4000000
set_option autoImplicit false
namespace K62
open PySem L2
/-! ### rows that are made -/
def Ent (ok : Int → Prop) (d : PyData) : Prop := ∃ v, d = .int v ∧ ok v
theorem row_of {α : Type} {ok : Int → Prop} {R : α → PyData → Prop} (hR : ∀ a d, R a d → Ent ok d) : ∀ {l : List α} {es : List PyData}, Paired R l es → ∃ r : List Int, es = nums r ∧ r.length = l.length ∧ ∀ x ∈ r, ok x
  | _, _, .nil => ⟨[], rfl, rfl, fun x h => by cases h⟩
  | _, _, .cons h t => by
    obtain ⟨v, rfl, hv⟩ := hR _ _ h
    obtain ⟨r, rfl, h1, h2⟩ := row_of hR t
    exact ⟨v :: r, rfl, by rw [List.length_cons, List.length_cons, h1], fun x hx => by
      rcases List.mem_cons.mp hx with rfl | hx
      · exact hv
      · exact h2 x hx⟩
/-- a row of n entries, all ok -/
def RowOk (ok : Int → Prop) (n : Nat) (d : PyData) : Prop := ∃ r : List Int, d = rowD r ∧ r.length = n ∧ ∀ x ∈ r, ok x
theorem tab_of {ok : Int → Prop} {n : Nat} : ∀ {es : List PyData}, (∀ d ∈ es, RowOk ok n d) → ∃ S : Tab, es = S.map rowD ∧ S.length = es.length ∧ (∀ r ∈ S, r.length = n) ∧ ∀ r ∈ S, ∀ x ∈ r, ok x
  | [], _ => ⟨[], rfl, rfl, fun r h => (by cases h), fun r h => (by cases h)⟩
  | d :: es, h => by
    obtain ⟨r, rfl, h1, h2⟩ := h d (List.mem_cons_self ..)
    obtain ⟨S, rfl, h3, h4, h5⟩ := tab_of fun d hd => h d (List.mem_cons_of_mem _ hd)
    exact ⟨r :: S, rfl, by simp, fun x hx => by
      rcases List.mem_cons.mp hx with rfl | hx
      · exact h1
      · exact h4 x hx, fun x hx => by
      rcases List.mem_cons.mp hx with rfl | hx
      · exact h2
      · exact h5 x hx⟩
def ok01 (x : Int) : Prop := x = 0 ∨ x = 1
def okPm (x : Int) : Prop := x = 0 ∨ x = 1 ∨ x = -1
/-- a table's rows, as data -/
structure TabOk (ok : Int → Prop) (es : List PyData) (m n : Nat) : Prop where
  m0 : 1 ≤ m
  m5 : m ≤ 5
  n0 : 1 ≤ n
  n5 : n ≤ 5
  len : es.length = m
  row : ∀ d ∈ es, RowOk ok n d
theorem TabOk.tab {ok : Int → Prop} {es : List PyData} {m n : Nat} (h : TabOk ok es m n) : ∃ S : Tab, es = S.map rowD ∧ Rect S m n ∧ ∀ r ∈ S, ∀ x ∈ r, ok x := by
  obtain ⟨S, e, h1, h2, h3⟩ := tab_of h.row
  exact ⟨S, e, ⟨h.m0, h.m5, h.n0, h.n5, h1.trans h.len, h2⟩, h3⟩
theorem TabOk.of {ok : Int → Prop} {S : Tab} {m n : Nat} (h : Rect S m n) (h2 : ∀ r ∈ S, ∀ x ∈ r, ok x) : TabOk ok (S.map rowD) m n :=
  ⟨h.m0, h.m5, h.n0, h.n5, by rw [List.length_map, h.len], fun d hd => by
    obtain ⟨r, hr, rfl⟩ := List.mem_map.mp hd
    exact ⟨r, rfl, h.row r hr, h2 r hr⟩⟩
theorem TabOk.perm {ok : Int → Prop} {es es' : List PyData} {m n : Nat} (h : TabOk ok es m n) (p : es'.Perm es) : TabOk ok es' m n :=
  ⟨h.m0, h.m5, h.n0, h.n5, p.length_eq.trans h.len, fun d hd => h.row d (p.mem_iff.mp hd)⟩
theorem TabOk.sh {ok : Int → Prop} {es : List PyData} {m n : Nat} (h : TabOk ok es m n) : ∀ d ∈ es, shD 60 d := fun d hd => by
  obtain ⟨r, rfl, _⟩ := h.row d hd
  exact shD.mono (shD.nums 0 r) (by decide)
theorem TabOk.at {ok : Int → Prop} {es : List PyData} {m n : Nat} (h : TabOk ok es m n) {i : Nat} (hi : i < m) : ∃ r, es[i]? = some (rowD r) ∧ r.length = n ∧ ∀ x ∈ r, ok x := by
  have hl : i < es.length := by rw [h.len]; exact hi
  obtain ⟨r, e, h1, h2⟩ := h.row es[i] (List.getElem_mem hl)
  exact ⟨r, by rw [List.getElem?_eq_getElem hl, e], h1, h2⟩
theorem cell_row {r : List Int} {n j : Nat} (hl : r.length = n) (hj : j < n) : ∃ v, (nums r)[j]? = some (.int v) ∧ v ∈ r := by
  have h : j < r.length := by omega
  exact ⟨r[j], by rw [List.getElem?_map, List.getElem?_eq_getElem h]; rfl, List.getElem_mem h⟩
theorem xs_app2 {K : PySem.W.Frag} {te : TE} {ds : DS} {M : MH} {Δ : XE} {i : Nat} {f : Addr} {es : List PyData} (h0 : ds[i]? = some (some (.adr f))) (hf : M f = some (.lst (dats es))) (hl : es.length < 100000)
    (h : Xp K te ds M fun y M2 => M2 f = M f ∧ ∃ d, y = .dat d ∧ Δ.nx ds (M2.up f (.lst (dats (es ++ [d]))))) : Xs K (tDrop (tBM K "list" rAppend (tVar i) (tCons te tNil))) ds M Δ := by
  refine xs_app <| xp_var h0 ⟨f, _, rfl, hf, xp_mono h fun y M2 ⟨e, d, ey, k⟩ => ⟨dats es, e.trans hf, by rw [List.length_map]; exact hl, ?_⟩⟩
  rw [ey, show dats es ++ [Ds.dat d] = dats (es ++ [d]) by rw [dats, dats, List.map_append]; rfl]
  exact k
theorem ints_perm {n : Nat} {es : List PyData} (h : es.Perm (nums ((List.range n).map fun i => ((i : Nat) : Int)))) : es.length = n ∧ ∀ i, i < n → ∃ v : Nat, v < n ∧ es[i]? = some (.int (v : Nat)) := by
  have hl : es.length = n := by rw [h.length_eq]; simp
  refine ⟨hl, fun i hi => ?_⟩
  have hi' : i < es.length := by omega
  have hm := h.mem_iff.mp (List.getElem_mem hi')
  obtain ⟨x, hx, e⟩ := List.mem_map.mp hm
  obtain ⟨v, hv, rfl⟩ := List.mem_map.mp hx
  exact ⟨v, List.mem_range.mp hv, by rw [List.getElem?_eq_getElem hi', ← e]⟩
theorem sh_ints {n : Nat} : ∀ d ∈ nums ((List.range n).map fun i => ((i : Nat) : Int)), shD 60 d := fun d hd => by
  obtain ⟨x, _, rfl⟩ := List.mem_map.mp hd
  exact shD.int _ _
section
variable {P : Program} {w : World} {K : PySem.W.Frag} {mg : Str → Option Value} {base : Heap}
/-- what draws and makes a table: its promise -/
def tabP (ok : Int → Prop) (m n : Nat) (p : Addr) (N c : Nat) (M : MH) (Φ : Ds → MH → Prop) : Prop := ∀ es M', TabOk ok es m n → Src M' p (N + c) → SubP p M M' → Φ (.dat (.list es)) M'
def p_stretches : SpP := fun xs M Φ => ∃ (p : Addr) (N many wide : Nat), 1 ≤ many ∧ many ≤ 5 ∧ 1 ≤ wide ∧ wide ≤ 5 ∧ N < 900000 ∧ Src M p N ∧ xs = [.adr p, .dat (.int many), .dat (.int wide)] ∧ tabP ok01 many wide p N 15 M Φ
theorem ok_law_stretches (T : Txt w K mg) : FnOk P w K mg base CX0 3 T.d_law_stretches.f T.d_law_stretches.fd ["_law_source", "_law_many", "_law_wide"] (spE K p_stretches) := by
  refine fn_ok T.d_law_stretches.F sc_law_stretches (fun xs M Φ ⟨_, _, _, _, _, _, _, _, _, _, h, _⟩ => by rw [h]; rfl) fun cdv A outer s H E hr => ?_
  have nd := sc_law_stretches.nd
  refine ⟨_, (pss_cons (ps_set (i := 3) nd rfl (Or.inr rfl) (pe_call (ok_law_mixed T) (hr.mono (by first | decide | omega)) rfl T.d_law_mixed.m T.d_law_mixed.F.kp T.d_law_mixed.b .nil pass0 (pa_cons (pv 0) (pa_cons (pe_listRg rfl rfl T.z_list (prg_1 rfl T.z_range (pv 2))) pa_nil))))
      (pss_cons (ps_set (i := 4) nd rfl (Or.inl rfl) (pe_lst pa_nil))
      (pss_cons (ps_for PassesOwn.never rfl (pi_range1 (by rfl) T.z_range (pa_cons (pv 1) pa_nil)) (pg_name (i := 5) nd rfl (Or.inl rfl)) (pss_cons (ps_set (i := 6) nd rfl (Or.inr rfl) (pe_call (ok_law_next T) (hr.mono (by first | decide | omega)) rfl T.d_law_next.m T.d_law_next.F.kp T.d_law_next.b .nil pass0 (pa_cons (pv 0) (pa_cons (pv 2) pa_nil))))
      (pss_cons (ps_set (i := 7) nd rfl (Or.inr rfl) (pe_call (ok_law_next T) (hr.mono (by first | decide | omega)) rfl T.d_law_next.m T.d_law_next.F.kp T.d_law_next.b .nil pass0 (pa_cons (pv 0) (pa_cons (pe_op op_add (pe_op op_sub (pv 2) (pv 6)) pe_int) pa_nil))))
      (pss_one (ps_expr (kbm (K := K) rfl (pe_bm PySem.F.plainAttrs_list PySem.F.slot_list_append PySem.F.type_list_append mt_append (pv 4) (pa_cons (pe_lc (own := [("_law_column", 8)]) rfl nd (pi_range1 (by rfl) T.z_range (pa_cons (pv 2) pa_nil)) (blkOk_by (by kernel_rfl)) (fun _ _ _ _ _ => (pg_name (i := 8) nd rfl (Or.inl rfl))) (fun _ _ _ _ _ => pts_nil) (fun _ _ _ _ _ => (pe_callTy call_int1 (by rfl) T.z_int (by decide +kernel) (pa_cons (pe_chain op_le op_lt (pv 6) (pe_ix (k_ix (K := K) rfl) (pv 3) (pv 8) (fun _ _ => rfl)) (pe_op op_add (pv 6) (pv 7))) pa_nil)))) pa_nil))))))))
      (pss_one (ps_ret (pv 4)))))), ?_⟩
  rintro xs M Φ ⟨p, N, many, wide, a1, a2, a3, a4, hN, src, rfl, k⟩
  refine xs_seq <| xs_set <| xp_frz <| xp_call <| xa_cons <| xp_var rfl <| xa_cons <| xp_lstRg1 <| xp_var rfl ⟨wide, rfl, by omega, xa_nil ⟨p, N, nums ((List.range wide).map fun i => ((i : Nat) : Int)), by simp; omega, sh_ints, by simp; omega, src, rfl, fun es f M1 hp hf hMf s1 sub1 => ⟨f, es, rfl, hMf, ?_⟩⟩⟩
  obtain ⟨hel, hat⟩ := ints_perm hp
  have fne := src.ne hf
  have sub2 := sub1.del hf
  have s2 := s1.del fne
  simp only [List.length_map, List.length_range] at s2
  generalize M1.del f = M2 at sub2 s2
  refine xs_seq <| xs_set <| xp_lstM <| xa_nil ⟨Nat.zero_le _, fun q hq => ?_⟩
  have hq0 := src.fresh s2 sub2 hq
  have qne := src.ne hq0
  refine xs_seq (xs_forD (l := List.range many) (enc := fun i : Nat => .int i) [5] (fun i ds' M' => ∃ rows a b c d, ds' = [some (.adr p), some (.dat (.int many)), some (.dat (.int wide)), some (.dat (.list es)), some (.adr q), a, b, c, d] ∧ M' q = some (.lst (dats rows)) ∧ rows.length = i ∧ (∀ d ∈ rows, RowOk ok01 wide d) ∧ Src M' p (N + wide + 2 * i) ∧ SubP p M M') (xd_len0 (by omega) <| xa_cons <| xp_var rfl <| xa_nil ⟨rfl, rfl⟩) ⟨[], _, _, _, _, rfl, MH.up_same, rfl, fun d h => (by cases h), s2.up qne, sub2.new hq0⟩ ?_ ?_)
  · rintro i i' ds' M' hi ⟨rows, a, b, c, d, rfl, hMq, hlen, hrows, s3, sub3⟩
    obtain ⟨hi', rfl⟩ := range_at hi
    refine xg_name (by decide) <| xs_seq <| xs_set <| xp_call <| xa_cons <| xp_var rfl <| xa_cons <| xp_var rfl <| xa_nil ⟨p, N + wide + 2 * i, wide, by omega, by omega, by omega, s3, rfl, fun st M4 hst s4 sub4 => ?_⟩
    refine xs_seq <| xs_set <| xp_call <| xa_cons <| xp_var rfl <| xa_cons <| xp_op <| xp_op <| xp_var rfl <| xp_var rfl <| xo_i0 <| xp_int <| xo_i0 <| xa_nil ⟨p, N + wide + 2 * i + 1, wide - st + 1, by omega, by omega, by omega, s4, ?_, fun ln M5 hln s5 sub5 => ?_⟩
    · rw [show ((wide : Nat) : Int) - (st : Nat) + 1 = ((wide - st + 1 : Nat) : Int) by omega]
    · have hq5 : M5 q = some (.lst (dats rows)) := sub5 q _ qne (sub4 q _ qne hMq)
      refine xs_app2 rfl hq5 (by omega) ?_
      refine xp_mapR (Gd0 := fun _ => True) (l := List.range wide) (enc := fun i : Nat => .int i) (fun _ d => Ent ok01 d) (xd_len0 (by omega) <| xa_cons <| xp_var rfl <| xa_nil ⟨rfl, rfl⟩) trivial (by rw [List.length_range]; omega) ?_ fun rs hrs => ⟨rfl, _, rfl, ?_⟩
      · intro j j' hj
        obtain ⟨hj', rfl⟩ := range_at hj
        obtain ⟨v, hv, ev⟩ := hat j hj'
        refine xg_name (by decide) ⟨rfl, xp_cb <| xa_cons <| xp_chain <| xp_var rfl <| xp_op <| xp_var rfl <| xp_var rfl <| xo_ixL (at_nat ev) <| xo_b0 ⟨_, rfl, fun _ => ?_, fun _ => ?_⟩⟩
        · refine xp_op <| xp_var rfl <| xp_var rfl <| xo_i0 <| xo_b0 <| xa_nil <| xc_intB ⟨rfl, _, rfl, _, rfl, ?_⟩
          split
          · exact .inr rfl
          · exact .inl rfl
        · exact xa_nil <| xc_intB ⟨rfl, _, rfl, _, rfl, .inl rfl⟩
      · obtain ⟨r, rfl, hr1, hr2⟩ := row_of (fun _ _ h => h) hrs
        refine ⟨rows ++ [rowD r], _, _, _, _, rfl, MH.up_same, by rw [List.length_append, hlen]; rfl, fun d hd => ?_, s5.up qne, ((sub3.trans sub4).trans sub5).new hq0⟩
        rcases List.mem_append.mp hd with hd | hd
        · exact hrows d hd
        · obtain rfl := List.mem_singleton.mp hd
          exact ⟨r, rfl, by rw [hr1, List.length_range], hr2⟩
  · rintro ds' M' ⟨rows, a, b, c, d, rfl, hMq, hlen, hrows, s3, sub3⟩
    rw [List.length_range] at hlen s3
    exact xs_ret <| xp_frz <| xp_var rfl ⟨q, rows, rfl, hMq, k rows _ ⟨a1, a2, a3, a4, hlen, hrows⟩ ((s3.del qne).mono (by omega)) (sub3.del hq0)⟩
end
end K62
end
section
set_option Elab.async false
set_option linter.all false
set_option maxRecDepth 100000
set_option maxHeartbeats 4000000
set_option autoImplicit false
namespace K62
open PySem L2
theorem pm_cases {k : Nat} (h : k < 2) : ∃ v : Int, (nums [1, -1])[k]? = some (.int v) ∧ (v = 1 ∨ v = -1) := by
  match k, h with
  | 0, _ => exact ⟨1, rfl, .inl rfl⟩
  | 1, _ => exact ⟨-1, rfl, .inr rfl⟩
theorem pm_cases3 {k : Nat} (h : k < 3) : ∃ v : Int, (nums [1, 1, -1])[k]? = some (.int v) ∧ (v = 1 ∨ v = -1) := by
  match k, h with
  | 0, _ => exact ⟨1, rfl, .inl rfl⟩
  | 1, _ => exact ⟨1, rfl, .inl rfl⟩
  | 2, _ => exact ⟨-1, rfl, .inr rfl⟩
theorem pm_mul2 {i j : Int} (h : j = 1 ∨ j = -1) : CMul i j := .inr (by rcases h with rfl | rfl <;> decide)
theorem pm_prod {s a b : Int} (hs : s = 1 ∨ s = -1) (ha : okPm a) (hb : b = 1 ∨ b = -1) : okPm (s * a * b) := by
  unfold okPm at ha ⊢
  rcases hs with rfl | rfl <;> rcases ha with rfl | rfl | rfl <;> rcases hb with rfl | rfl <;> decide
section
variable {P : Program} {w : World} {K : PySem.W.Frag} {mg : Str → Option Value} {base : Heap}
/-- [[row[k] for row in rows] for k in range(len(rows[0]))] -/
theorem xp_turned {ds : DS} {M : MH} {Φ : Ds → MH → Prop} {ok : Int → Prop} {es : List PyData} {m n : Nat} {wi : TI} {vo vi : List Nat} {ir ik ix : Nat} (hT : TabOk ok es m n) (h1 : XiD K wi ds M ((List.range n).map fun i => .int (i : Nat))) (hk : ik ∈ vo)
    (hx : (wipeD ((wipeD ds vo).set ik (some (.dat (.int 0)))) vi).length = ds.length) (hr : ∀ y, ((wipeD ds vo).set ik (some y))[ir]? = some (some (.dat (.list es)))) (hi : ix ∈ vi) (hkx : ∀ y z, (((wipeD ((wipeD ds vo).set ik (some y)) vi).set ix (some z))[ik]? = some (some y)) ∧ (((wipeD ((wipeD ds vo).set ik (some y)) vi).set ix (some z))[ix]? = some (some z)))
    (k : ∀ es', TabOk ok es' n m → Φ (.dat (.list es')) M) : Xp K (tLc wi (gName ik) tYes (tLc (iList K (tVar ir)) (gName ix) tYes (tOp (rIx K) (tVar ix) (tVar ik)) vi) vo) ds M Φ := by
  have m5 := hT.m5
  have n5 := hT.n5
  refine xp_mapR (Gd0 := fun _ => True) (l := List.range n) (enc := fun i : Nat => .int i) (fun _ d => RowOk ok m d) h1 trivial (by rw [List.length_range]; omega) ?_ fun rs hrs => ?_
  · intro j j' hj
    obtain ⟨hj', rfl⟩ := range_at hj
    refine xg_name hk ⟨rfl, ?_⟩
    refine xp_mapR (Gd0 := fun _ => True) (l := es) (enc := fun d => d) (fun _ d => Ent ok d) (by rw [List.map_id']; exact xd_var (hr _)) trivial (by rw [hT.len]; omega) ?_ fun qs hqs => ⟨rfl, _, rfl, ?_⟩
    · intro i d hd
      obtain ⟨r, rfl, hr1, hr2⟩ := hT.row d (List.mem_of_getElem? hd)
      obtain ⟨v, hv, hvm⟩ := cell_row hr1 hj'
      refine xg_name hi ⟨rfl, xp_op <| xp_var (hkx _ _).2 <| xp_var (hkx _ _).1 <| xo_ixL (at_nat hv) ⟨rfl, _, rfl, v, rfl, hr2 v hvm⟩⟩
    · obtain ⟨r, rfl, h1, h2⟩ := row_of (fun _ _ h => h) hqs
      exact ⟨r, rfl, h1.trans hT.len, h2⟩
  · refine k rs ⟨hT.n0, hT.n5, hT.m0, hT.m5, by rw [← hrs.length, List.length_range], fun d hd => ?_⟩
    obtain ⟨_, _, h⟩ := Paired.mem2 hrs d hd
    exact h
def p_swung : SpP := fun xs M Φ => ∃ (p : Addr) (N m n : Nat) (es : List PyData), TabOk okPm es m n ∧ N < 900000 ∧ Src M p N ∧ xs = [.adr p, .dat (.list es)] ∧ ∀ m' n', tabP okPm m' n' p N 16 M Φ
theorem ok_law_swung (T : Txt w K mg) : FnOk P w K mg base CX0 3 T.d_law_swung.f T.d_law_swung.fd ["_law_source", "_law_table"] (spE K p_swung) := by
  refine fn_ok T.d_law_swung.F sc_law_swung (fun xs M Φ ⟨_, _, _, _, _, _, _, _, h, _⟩ => by rw [h]; rfl) fun cdv A outer s H E hr => ?_
  have nd := sc_law_swung.nd
  refine ⟨_, (pss_cons (ps_set (i := 2) nd rfl (Or.inr rfl) (pe_call (ok_law_mixed T) (hr.mono (by first | decide | omega)) rfl T.d_law_mixed.m T.d_law_mixed.F.kp T.d_law_mixed.b .nil pass0 (pa_cons (pv 0) (pa_cons (pv 1) pa_nil))))
      (pss_cons (ps_if (pt_cmpR (k_eq (K := K) rfl (u64 hr)) (pe_call (ok_law_next T) (hr.mono (by first | decide | omega)) rfl T.d_law_next.m T.d_law_next.F.kp T.d_law_next.b .nil pass0 (pa_cons (pv 0) (pa_cons pe_int pa_nil))) pe_int (nomark _)) (pss_one (ps_set (i := 2) nd rfl (Or.inr rfl) (pe_lc (own := [("_law_k", 8)]) rfl nd (pi_range1 (by rfl) T.z_range (pa_cons (pe_callB (k_len (K := K) rfl) (by rfl) T.z_len (by decide +kernel) (pa_cons (pe_ix (k_ix (K := K) rfl) (pv 2) pe_int (fun _ _ => rfl)) pa_nil)) pa_nil)) (blkOk_by (by kernel_rfl)) (fun _ _ _ _ _ => (pg_name (i := 8) nd rfl (Or.inr rfl))) (fun _ _ _ _ _ => pts_nil) (fun _ _ _ _ _ => (pe_lc (own := [("_law_row", 5)]) rfl nd (kiL (K := K) rfl (pi_list (pv 2))) (blkOk_by (by kernel_rfl)) (fun _ _ _ _ _ => (pg_name (i := 5) nd rfl (Or.inl rfl))) (fun _ _ _ _ _ => pts_nil) (fun _ _ _ _ _ => (pe_ix (k_ix (K := K) rfl) (pv 5) (pv 8) (fun _ _ => rfl)))))))) pss_nil)
      (pss_cons (ps_setLc (i := 3) (own := [("_law_column", 7)]) rfl nd rfl rfl (sw_true rfl rfl rfl (by decide +kernel)) (kiL (K := K) rfl (pi_list (pe_ix (k_ix (K := K) rfl) (pv 2) pe_int (fun _ _ => rfl)))) (blkOk_by (by kernel_rfl)) (fun _ _ _ _ _ => (pg_name (i := 7) nd rfl (Or.inl rfl))) (fun _ _ _ _ _ => pts_nil) (fun _ _ _ _ _ => (pe_ix (k_ix (K := K) rfl) (pe_lst (pa_cons pe_int (pa_cons (pe_un un_neg pe_int) pa_nil))) (pe_call (ok_law_next T) (hr.mono (by first | decide | omega)) rfl T.d_law_next.m T.d_law_next.F.kp T.d_law_next.b .nil pass0 (pa_cons (pv 0) (pa_cons pe_int pa_nil))) (fun _ _ => rfl))))
      (pss_cons (ps_set (i := 4) nd rfl (Or.inl rfl) (pe_lst pa_nil))
      (pss_cons (ps_for PassesOwn.never rfl (kiL (K := K) rfl (pi_list (pv 2))) (pg_name (i := 5) nd rfl (Or.inl rfl)) (pss_cons (ps_set (i := 6) nd rfl (Or.inr rfl) (pe_ix (k_ix (K := K) rfl) (pe_lst (pa_cons pe_int (pa_cons pe_int (pa_cons (pe_un un_neg pe_int) pa_nil)))) (pe_call (ok_law_next T) (hr.mono (by first | decide | omega)) rfl T.d_law_next.m T.d_law_next.F.kp T.d_law_next.b .nil pass0 (pa_cons (pv 0) (pa_cons pe_int pa_nil))) (fun _ _ => rfl)))
      (pss_one (ps_expr (kbm (K := K) rfl (pe_bm PySem.F.plainAttrs_list PySem.F.slot_list_append PySem.F.type_list_append mt_append (pv 4) (pa_cons (pe_lc (own := [("_law_a", 9), ("_law_b", 10)]) rfl nd (kiZ (K := K) rfl (pi_zip (by rfl) T.z_zip (pa_cons (pv 5) (pa_cons (pv 3) pa_nil)))) (blkOk_by (by kernel_rfl)) (fun _ _ _ _ _ => (kgT (K := K) rfl (pg_tup (n := 2) rfl (pgs_cons (pg_name (i := 9) nd rfl (Or.inl rfl)) (pgs_cons (pg_name (i := 10) nd rfl (Or.inl rfl)) pgs_nil))))) (fun _ _ _ _ _ => pts_nil) (fun _ _ _ _ _ => (pe_op op_mul (pe_op op_mul (pv 6) (pv 9)) (pv 10)))) pa_nil)))))))
      (pss_one (ps_ret (pv 4)))))))), ?_⟩
  rintro xs M Φ ⟨p, N, m, n, es, hT, hN, src, rfl, k⟩
  have m5 := hT.m5
  have n5 := hT.n5
  have hlen := hT.len
  refine xs_seq <| xs_set <| xp_frz <| xp_call <| xa_cons <| xp_var rfl <| xa_cons <| xp_var rfl <| xa_nil ⟨p, N, es, by omega, hT.sh, by omega, src, rfl, fun es1 f M1 hp hf hMf s1 sub1 => ⟨f, es1, rfl, hMf, ?_⟩⟩
  have hT1 := hT.perm hp
  have fne := src.ne hf
  have sub2 := sub1.del hf
  have s2 := s1.del fne
  rw [hlen] at s2
  generalize M1.del f = M2 at sub2 s2
  refine xs_seq (xs_mono (Δ' := { nx := fun ds' M' => ∃ es2 m2 n2 a b c d e f g h, ds' = [some (.adr p), some (.dat (.list es)), some (.dat (.list es2)), a, b, c, d, e, f, g, h] ∧ TabOk okPm es2 m2 n2 ∧ Src M' p (N + 6) ∧ SubP p M M', rt := fun _ _ => False }) ?_ (fun ds' M' hh => ?_) (fun _ _ z => z.elim) (fun _ _ z => z.elim) (fun _ _ z => z.elim))
  · refine xs_if <| xt_tst <| xp_op <| xp_call <| xa_cons <| xp_var rfl <| xa_cons <| xp_int <| xa_nil ⟨p, N + m, 2, by decide, by decide, by omega, s2, rfl, fun r M3 hr s3 sub3 => xp_int <| xo_eqD (.dat _) (.dat _) (shD.int _ _) (shD.int _ _) ⟨_, rfl, fun _ => ?_, fun _ => ?_⟩⟩
    · refine xs_set ?_
      refine xp_turned (ok := okPm) hT1 (xd_len0 (n := n) (by omega) <| xa_cons <| xp_cb <| xa_cons <| xp_op <| xp_var rfl <| xp_int ?_) (by decide) rfl (fun y => rfl) (by decide) (fun y z => ⟨rfl, rfl⟩) fun es2 hT2 => ?_
      · obtain ⟨r0, e0, hr0, _⟩ := hT1.at (i := 0) (by have := hT.m0; omega)
        refine xo_ixL (at_nat (j := 0) e0) <| xa_nil <| xc_len (.dat _) <| xa_nil ⟨?_, rfl⟩
        rw [List.length_map, hr0]
      · exact ⟨es2, n, m, _, _, _, _, _, _, _, _, rfl, hT2, s3.mono (by omega), sub2.trans sub3⟩
    · exact xs_nil ⟨es1, m, n, _, _, _, _, _, _, _, _, rfl, hT1, s3.mono (by omega), sub2.trans sub3⟩
  · obtain ⟨es2, m2, n2, a, b, c, d, e, f, g, h, rfl, hT2, s3, sub3⟩ := hh
    have m25 := hT2.m5
    have n25 := hT2.n5
    obtain ⟨r0, e0, hr0, _⟩ := hT2.at (i := 0) (by have := hT2.m0; omega)
    refine xs_seq <| xs_set ?_
    refine xp_draw (α := Int) PyData.int (fun _ d => Ent (fun v => v = 1 ∨ v = -1) d) p 1 <| xi_list <| xp_op <| xp_var rfl <| xp_int <| xo_ixL (at_nat (j := 0) e0) ⟨_, rfl, r0, N + 6, by rw [List.length_map], fun _ _ => trivial, ev_list rfl, by omega, s3, ?_, fun sg M4 hsg sub4 s4 => .inl ?_⟩
    · intro i v M' hv sub s'
      refine xg_name (by decide) ⟨rfl, xp_op <| xp_lst <| xa_cons <| xp_int <| xa_cons <| xp_un <| xp_int <| xu_neg <| xa_nil ⟨nums [1, -1], rfl, (show 2 ≤ 100000 by decide), ?_⟩⟩
      have hi := (List.getElem?_eq_some_iff.mp hv).1
      refine xp_call <| xa_cons <| xp_var rfl <| xa_cons <| xp_int <| xa_nil ⟨p, N + 6 + 1 * i, 2, by decide, by decide, by omega, s', rfl, fun r M5 hr s5 sub5 => ?_⟩
      obtain ⟨u, hu, hpm⟩ := pm_cases hr
      exact xo_ixL (at_nat hu) ⟨sub.trans sub5, s5.mono (by omega), _, rfl, u, rfl, hpm⟩
    · obtain ⟨sr, rfl, hsl, hspm⟩ := row_of (fun _ _ h => h) hsg
      have sub5 := sub3.trans sub4
      refine xs_seq <| xs_set <| xp_lstM <| xa_nil ⟨Nat.zero_le _, fun q hq => ?_⟩
      have hq0 := src.fresh s4 sub5 hq
      have qne := src.ne hq0
      refine xs_seq (xs_forD (l := es2) (enc := fun d => d) [5] (fun i ds' M' => ∃ rows a b c d e f, ds' = [some (.adr p), some (.dat (.list es)), some (.dat (.list es2)), some (.dat (rowD sr)), some (.adr q), a, b, c, d, e, f] ∧ M' q = some (.lst (dats rows)) ∧ rows.length = i ∧ (∀ d ∈ rows, RowOk okPm n2 d) ∧ Src M' p (N + 11 + i) ∧ SubP p M M') (by rw [List.map_id']; exact xd_var rfl) ⟨[], _, _, _, _, _, _, rfl, MH.up_same, rfl, fun d h => (by cases h), (s4.up qne).mono (by omega), sub5.new hq0⟩ ?_ ?_)
      · rintro i d ds' M' hi ⟨rows, a, b, c, d', e, f, rfl, hMq, hl, hrows, s6, sub6⟩
        have hi' := (List.getElem?_eq_some_iff.mp hi).1
        rw [hT2.len] at hi'
        obtain ⟨r, rfl, hr1, hr2⟩ := hT2.row d (List.mem_of_getElem? hi)
        refine xg_name (by decide) <| xs_seq <| xs_set <| xp_op <| xp_lst <| xa_cons <| xp_int <| xa_cons <| xp_int <| xa_cons <| xp_un <| xp_int <| xu_neg <| xa_nil ⟨nums [1, 1, -1], rfl, (show 3 ≤ 100000 by decide), ?_⟩
        refine xp_call <| xa_cons <| xp_var rfl <| xa_cons <| xp_int <| xa_nil ⟨p, N + 11 + i, 3, by decide, by decide, by omega, s6, rfl, fun z M7 hz s7 sub7 => ?_⟩
        obtain ⟨u, hu, hpm⟩ := pm_cases3 hz
        refine xo_ixL (at_nat hu) ?_
        have hq7 : M7 q = some (.lst (dats rows)) := sub7 q _ qne hMq
        refine xs_app2 rfl hq7 (by omega) ?_
        refine xp_mapR (Gd0 := fun _ => True) (l := r.zip sr) (enc := fun z => .tuple [.int z.1, .int z.2]) (fun _ d => Ent okPm d) ?_ trivial (by rw [List.length_zip]; omega) ?_ fun rs hrs => ⟨rfl, _, rfl, ?_⟩
        · rw [← zipD_map PyData.int PyData.int]
          exact xd_zip (by rw [List.length_map, List.length_map, hr1, hsl, hr0]) <| xa_cons <| xp_var rfl <| xa_cons <| xp_var rfl <| xa_nil ⟨rfl, rfl⟩
        · rintro j ⟨x, y⟩ hj
          have hm := List.of_mem_zip (List.mem_of_getElem? hj)
          have hy := hspm y hm.2
          refine xg_tup rfl <| xgs_cons <| xg_name (by decide) <| xgs_cons <| xg_name (by decide) <| xgs_nil ⟨rfl, ?_⟩
          exact xp_op <| xp_op <| xp_var rfl <| xp_var rfl <| xo_iC (pm_mul hpm) <| xp_var rfl <| xo_iC (pm_mul2 hy) ⟨rfl, _, rfl, _, rfl, pm_prod hpm (hr2 x hm.1) hy⟩
        · obtain ⟨rr, rfl, h1, h2⟩ := row_of (fun _ _ h => h) hrs
          refine ⟨rows ++ [rowD rr], _, _, _, _, _, _, rfl, MH.up_same, by rw [List.length_append, hl]; rfl, fun d hd => ?_, s7.up qne, (sub6.trans sub7).new hq0⟩
          rcases List.mem_append.mp hd with hd | hd
          · exact hrows d hd
          · obtain rfl := List.mem_singleton.mp hd
            exact ⟨rr, rfl, by rw [h1, List.length_zip, hr1, hsl, hr0, Nat.min_self], h2⟩
      · rintro ds' M' ⟨rows, a, b, c, d, e, f, rfl, hMq, hl, hrows, s6, sub6⟩
        rw [hT2.len] at hl s6
        exact xs_ret <| xp_frz <| xp_var rfl ⟨q, rows, rfl, hMq, k m2 n2 rows _ ⟨hT2.m0, hT2.m5, hT2.n0, hT2.n5, hl, hrows⟩ ((s6.del qne).mono (by omega)) (sub6.del hq0)⟩
def p_twice : SpP := fun xs M Φ => ∃ (S : Tab) (m n r c : Nat), Rect S m n ∧ Ones S ∧ r < m ∧ c < n ∧ xs = [.dat (tabD S), .dat (.int r), .dat (.int c)] ∧ ∀ S', Rect S' m n → Ones S' → Φ (.dat (tabD S')) M
theorem ones_of_ent {S : Tab} {m n : Nat} (h : Rect S m n) (h2 : ∀ i j, ent S i j = 0 ∨ ent S i j = 1) : Ones S := fun r hr x hx => by
  obtain ⟨i, hi⟩ := List.mem_iff_getElem?.mp hr
  obtain ⟨j, hj⟩ := List.mem_iff_getElem?.mp hx
  have := h2 i j
  unfold ent at this
  simp only [List.getD_eq_getElem?_getD, hi, Option.getD_some, hj] at this
  exact this
theorem ok_law_twice (T : Txt w K mg) : FnOk P w K mg base CX0 1 T.d_law_twice.f T.d_law_twice.fd ["_law_table", "_law_row", "_law_column"] (spE K p_twice) := by
  refine fn_ok T.d_law_twice.F sc_law_twice (fun xs M Φ ⟨_, _, _, _, _, _, _, _, _, h, _⟩ => by rw [h]; rfl) fun cdv A outer s H E hr => ?_
  have nd := sc_law_twice.nd
  refine ⟨_, (pss_cons (ps_setLc (i := 3) (own := [("_law_line", 7)]) rfl nd rfl rfl (sw_true rfl rfl rfl (by decide +kernel)) (kiL (K := K) rfl (pi_list (pv 0))) (blkOk_by (by kernel_rfl)) (fun _ _ _ _ _ => (pg_name (i := 7) nd rfl (Or.inl rfl))) (fun _ _ _ _ _ => pts_nil) (fun _ _ _ _ _ => (pe_callTy (k_list (K := K) rfl) (by rfl) T.z_list (by decide +kernel) (pa_cons (pv 7) pa_nil))))
      (pss_cons (ps_for PassesOwn.never rfl (pi_range1 (by rfl) T.z_range (pa_cons (pe_callB (k_len (K := K) rfl) (by rfl) T.z_len (by decide +kernel) (pa_cons (pv 0) pa_nil)) pa_nil)) (pg_name (i := 4) nd rfl (Or.inl rfl)) (pss_one (ps_for PassesOwn.never rfl (pi_range1 (by rfl) T.z_range (pa_cons (pe_callB (k_len (K := K) rfl) (by rfl) T.z_len (by decide +kernel) (pa_cons (pe_ix (k_ix (K := K) rfl) (pv 0) pe_int (fun _ _ => rfl)) pa_nil)) pa_nil)) (pg_name (i := 5) nd rfl (Or.inl rfl)) (pss_one (ps_if (PW.pt (pw_and (pt_cmpR (k_ne (K := K) rfl (u64 hr)) (pv 4) (pv 1) (nomark _)) (pw_and1 (pt_cmpR (k_ne (K := K) rfl (u64 hr)) (pv 5) (pv 2) (nomark _))))) (pss_cons (ps_set (i := 6) nd rfl (Or.inl rfl) (pe_op op_mul (pe_ix (k_ix (K := K) rfl) (pe_ix (k_ix (K := K) rfl) (pv 0) (pv 4) (fun _ _ => rfl)) (pv 2) (fun _ _ => rfl)) (pe_ix (k_ix (K := K) rfl) (pe_ix (k_ix (K := K) rfl) (pv 0) (pv 1) (fun _ _ => rfl)) (pv 5) (fun _ _ => rfl))))
      (pss_one (ps_asg (pe_op op_mod (pe_op op_add (pe_ix (k_ix (K := K) rfl) (pe_ix (k_ix (K := K) rfl) (pv 0) (pv 4) (fun _ _ => rfl)) (pv 5) (fun _ _ => rfl)) (pv 6)) pe_int) (pg_sub (pe_ix (k_ix (K := K) rfl) (pv 3) (pv 4) (fun _ _ => rfl)) (pv 5) set_list)))) pss_nil)))))
      (pss_one (ps_ret (pv 3))))), ?_⟩
  rintro xs M Φ ⟨S, m, n, r, c, hS, h01, hrm, hcn, rfl, k⟩
  have m5 := hS.m5
  have n5 := hS.n5
  refine xs_pure ?_
  refine xs_seq <| xs_set ?_
  refine xp_mkT (Gd0 := fun _ => True) (l := S) (enc := rowD) (fun r => r) (xd_var rfl) (fun _ _ => trivial) (by rw [hS.len]; omega) ?_ fun p qs M1 sub1 hp hqs hT => ?_
  · intro i r M' hr sub
    exact xg_name (by decide) ⟨rfl, xp_cb <| xa_cons <| xp_var rfl <| xa_nil <| xc_listM fun q hq => ⟨q, rfl, hq, rfl⟩⟩
  · rw [List.map_id'] at hT
    refine xs_seq (xs_forD (l := List.range m) (enc := fun i : Nat => .int i) [4] (fun i ds' M' => ∃ S' a b c' d, ds' = [some (.dat (tabD S)), some (.dat (.int r)), some (.dat (.int c)), some (.adr p), a, b, c', d] ∧ Sub M M' ∧ TabQ M' p qs S' ∧ Rect S' m n ∧ ∀ i j, ent S' i j = 0 ∨ ent S' i j = 1) (xd_len0 (by omega) <| xa_cons <| xp_tall hS rfl <| xa_nil ⟨rfl, rfl⟩) ⟨S, _, _, _, _, rfl, sub1, hT, hS, fun i j => ones_ent h01 i j⟩ ?_ ?_)
    · rintro i i' ds' M' hi ⟨S', a, b, c', d, rfl, sub', hT', hS', hE'⟩
      obtain ⟨him, rfl⟩ := range_at hi
      refine xg_name (by decide) ?_
      refine xs_forD (l := List.range n) (enc := fun i : Nat => .int i) [5] (fun j ds' M' => ∃ S' b c' d, ds' = [some (.dat (tabD S)), some (.dat (.int r)), some (.dat (.int c)), some (.adr p), some (.dat (.int i)), b, c', d] ∧ Sub M M' ∧ TabQ M' p qs S' ∧ Rect S' m n ∧ ∀ i j, ent S' i j = 0 ∨ ent S' i j = 1) (xd_len0 (by omega) <| xa_cons <| xp_wide hS rfl <| xa_nil ⟨rfl, rfl⟩) ⟨S', _, _, _, rfl, sub', hT', hS', hE'⟩ ?_ ?_
      · rintro j j' ds' M2 hj ⟨S2, b, c', d, rfl, sub2, hT2, hS2, hE2⟩
        obtain ⟨hjn, rfl⟩ := range_at hj
        refine xg_name (by decide) <| xs_if <| xt_and <| xt_tst <| xp_op <| xp_var rfl <| xp_var rfl <| xo_neD (.dat _) (.dat _) (shD.int _ _) (shD.int _ _) ⟨_, rfl, fun _ => ?_, fun _ => no rfl <| xs_nil ⟨S2, _, _, _, rfl, sub2, hT2, hS2, hE2⟩⟩
        refine xt_tst <| xp_op <| xp_var rfl <| xp_var rfl <| xo_neD (.dat _) (.dat _) (shD.int _ _) (shD.int _ _) ⟨_, rfl, fun _ => ?_, fun _ => xs_nil ⟨S2, _, _, _, rfl, sub2, hT2, hS2, hE2⟩⟩
        have s01 := ones_ent h01 i c
        refine xs_seq <| xs_set <| xp_op <| xp_cell hS him hcn <| xp_var rfl ⟨rfl, xp_var rfl ⟨rfl, xp_var rfl ⟨rfl, ?_⟩⟩⟩
        refine xp_cell hS hrm hjn <| xp_var rfl ⟨rfl, xp_var rfl ⟨rfl, xp_var rfl ⟨rfl, xo_iC (.inl ?_) ?_⟩⟩⟩
        · rcases s01 with z | z <;> rw [z] <;> decide
        · obtain ⟨rw2, hr2, hv2⟩ := hS2.cell him hjn
          obtain ⟨q, hq, hm⟩ := hT2.at hr2
          have hqm := List.mem_of_getElem? hq
          refine xs_asg (vs := []) <| xp_op <| xp_op <| xp_cell hS him hjn <| xp_var rfl ⟨rfl, xp_var rfl ⟨rfl, xp_var rfl ⟨rfl, xp_var rfl <| xo_i0 <| xp_int <| xo_iC (by decide) ?_⟩⟩⟩
          obtain ⟨hP, hEP⟩ := ent_put hS2 him hjn ((ent S i j + ent S i c * ent S r j) % 2)
          refine xg_setL <| xp_op <| xp_var rfl <| xp_var rfl <| xo_ixM (x := .adr q) hT2.top (at_nat (by rw [List.getElem?_map, hq]; rfl)) <| xp_var rfl ⟨q, _, j, rfl, rfl, hm, by rw [List.length_map, List.length_map]; exact (List.getElem?_eq_some_iff.mp hv2).1, put2 S2 i j ((ent S i j + ent S i c * ent S r j) % 2), _, _, _, rfl, sub2.new (hqs q hqm), hT2.put _ hq hr2, hP, fun a b => ?_⟩
          rw [hEP]
          split
          · have h1 := Int.emod_nonneg (ent S i j + ent S i c * ent S r j) (b := 2) (by decide)
            have h2 := Int.emod_lt_of_pos (ent S i j + ent S i c * ent S r j) (b := 2) (by decide)
            omega
          · exact hE2 a b
      · rintro ds' M2 ⟨S2, b, c', d, rfl, sub2, hT2, hS2, hE2⟩
        exact ⟨S2, _, _, _, _, rfl, sub2, hT2, hS2, hE2⟩
    · rintro ds' M' ⟨S', a, b, c', d, rfl, sub', hT', hS', hE'⟩
      refine xs_ret <| xp_frzT <| xp_var rfl ⟨p, qs, S', M, rfl, hT', fun b o e => ⟨sub' b o e, fun z => ?_, fun z => ?_⟩, Sub.refl M, k S' hS' (ones_of_ent hS' hE')⟩
      · rw [z, hp] at e; cases e
      · rw [hqs b z] at e; cases e
end
end K62
end
section
set_option Elab.async false
set_option linter.all false
set_option maxRecDepth 100000
set_option maxHeartbeats 4000000
set_option autoImplicit false
namespace K62
open PySem L2
/-! ### ends of edges -/
def unI : PyData → Nat
  | .int i => i.toNat
  | _ => 0
def unS : PyData → Spot
  | .tuple [a, b] => (unI a, unI b)
  | _ => (0, 0)
theorem unS_sp (s : Spot) : unS (spD s) = s := by obtain ⟨a, b⟩ := s; rfl
theorem perm_inv {α : Type} {f : α → PyData} {g : PyData → α} (hg : ∀ a, g (f a) = a) {l : List α} {es : List PyData} (h : es.Perm (l.map f)) : ∃ l' : List α, es = l'.map f ∧ l'.Perm l := by
  refine ⟨es.map g, ?_, ?_⟩
  · rw [List.map_map]
    refine (List.map_id' es).symm.trans (List.map_congr_left fun d hd => ?_)
    obtain ⟨a, _, rfl⟩ := List.mem_map.mp (h.mem_iff.mp hd)
    show f a = f (g (f a))
    rw [hg]
  · have q := h.map g
    rw [List.map_map] at q
    have e : l.map (g ∘ f) = l := (List.map_congr_left fun a _ => hg a).trans (List.map_id' l)
    rw [e] at q
    exact q
theorem sh_spots {l : List Spot} : ∀ d ∈ l.map spD, shD 60 d := fun d hd => by
  obtain ⟨s, _, rfl⟩ := List.mem_map.mp hd
  exact shD.mono (shD_sp s) (by decide)
section
variable {P : Program} {w : World} {K : PySem.W.Frag} {mg : Str → Option Value} {base : Heap}
def p_ends : SpP := fun xs M Φ => ∃ (p : Addr) (N many : Nat), 1 ≤ many ∧ many ≤ 5 ∧ N < 900000 ∧ Src M p N ∧ xs = [.adr p, .dat (.int many)] ∧
  ∀ eds : List Spot, eds.length = many → (∀ e ∈ eds, e.1 ≤ many ∧ e.2 ≤ many) → Linked eds many → ∀ f M', M f = none → M' f = some (.lst (dats (eds.map spD))) → Src M' p (N + 21) → SubP p M M' → Φ (.adr f) M'
theorem ok_law_ends (T : Txt w K mg) : FnOk P w K mg base CX0 3 T.d_law_ends.f T.d_law_ends.fd ["_law_source", "_law_many"] (spE K p_ends) := by
  refine fn_ok T.d_law_ends.F sc_law_ends (fun xs M Φ ⟨_, _, _, _, _, _, _, h, _⟩ => by rw [h]; rfl) fun cdv A outer s H E hr => ?_
  have nd := sc_law_ends.nd
  refine ⟨_, (pss_cons (ps_set (i := 2) nd rfl (Or.inl rfl) (pe_call (ok_law_mixed T) (hr.mono (by first | decide | omega)) rfl T.d_law_mixed.m T.d_law_mixed.F.kp T.d_law_mixed.b .nil pass0 (pa_cons (pv 0) (pa_cons (pe_listRg rfl rfl T.z_list (prg_1 rfl T.z_range (pe_op op_add (pv 1) pe_int))) pa_nil))))
      (pss_cons (ps_set (i := 3) nd rfl (Or.inl rfl) (pe_lst pa_nil))
      (pss_cons (ps_for PassesOwn.never rfl (pi_range1 (by rfl) T.z_range (pa_cons (pv 1) pa_nil)) (pg_name (i := 4) nd rfl (Or.inl rfl)) (pss_cons (ps_set (i := 5) nd rfl (Or.inl rfl) (pe_tup (pa_cons (pe_ix (k_ix (K := K) rfl) (pv 2) (pe_call (ok_law_next T) (hr.mono (by first | decide | omega)) rfl T.d_law_next.m T.d_law_next.F.kp T.d_law_next.b .nil pass0 (pa_cons (pv 0) (pa_cons (pe_op op_add (pv 4) pe_int) pa_nil))) (fun _ _ => rfl)) (pa_cons (pe_ix (k_ix (K := K) rfl) (pv 2) (pe_op op_add (pv 4) pe_int) (fun _ _ => rfl)) pa_nil))))
      (pss_one (ps_expr (kbm (K := K) rfl (pe_bm PySem.F.plainAttrs_list PySem.F.slot_list_append PySem.F.type_list_append mt_append (pv 3) (pa_cons (pe_ix (k_ix (K := K) rfl) (pe_lst (pa_cons (pv 5) (pa_cons (krevT (K := K) rfl (pe_revT (pv 5))) pa_nil))) (pe_call (ok_law_next T) (hr.mono (by first | decide | omega)) rfl T.d_law_next.m T.d_law_next.F.kp T.d_law_next.b .nil pass0 (pa_cons (pv 0) (pa_cons pe_int pa_nil))) (fun _ _ => rfl)) pa_nil)))))))
      (pss_one (ps_ret (pe_call (ok_law_mixed T) (hr.mono (by first | decide | omega)) rfl T.d_law_mixed.m T.d_law_mixed.F.kp T.d_law_mixed.b .nil pass0 (pa_cons (pv 0) (pa_cons (pv 3) pa_nil)))))))), ?_⟩
  rintro xs M Φ ⟨p, N, many, a1, a2, hN, src, rfl, k⟩
  refine xs_seq <| xs_set <| xp_frz <| xp_call <| xa_cons <| xp_var rfl <| xa_cons <| xp_lstRg1 <| xp_op <| xp_var rfl <| xp_int <| xo_i0 ⟨many + 1, rfl, by omega, xa_nil ⟨p, N, nums ((List.range (many + 1)).map fun i => ((i : Nat) : Int)), by simp; omega, sh_ints, by simp; omega, src, rfl, fun es f M1 hp hf hMf s1 sub1 => ⟨f, es, rfl, hMf, ?_⟩⟩⟩
  have hp' : es.Perm ((List.range (many + 1)).map fun i : Nat => PyData.int i) := by rw [listI]; exact hp
  obtain ⟨pl, rfl, hpl⟩ := perm_inv (g := unI) (fun a => by show ((a : Nat) : Int).toNat = a; omega) hp'
  have hpll : pl.length = many + 1 := by rw [hpl.length_eq, List.length_range]
  have hplm : ∀ i, i ≤ many → pl.getD i 0 ≤ many := fun i hi => by
    have hl : i < pl.length := by omega
    rw [List.getD_eq_getElem?_getD, List.getElem?_eq_getElem hl]
    exact Nat.le_of_lt_succ (List.mem_range.mp (hpl.mem_iff.mp (List.getElem_mem hl)))
  have hplat : ∀ i, i ≤ many → (pl.map fun i : Nat => PyData.int i)[i]? = some (.int (pl.getD i 0 : Nat)) := fun i hi => by
    have hl : i < pl.length := by omega
    rw [List.getElem?_map, List.getD_eq_getElem?_getD, List.getElem?_eq_getElem hl]; rfl
  have fne := src.ne hf
  have sub2 := sub1.del hf
  have s2 := s1.del fne
  simp only [List.length_map, List.length_range] at s2
  generalize M1.del f = M2 at sub2 s2
  refine xs_seq <| xs_set <| xp_lstM <| xa_nil ⟨Nat.zero_le _, fun q hq => ?_⟩
  have hq0 := src.fresh s2 sub2 hq
  have qne := src.ne hq0
  refine xs_seq (xs_forD (l := List.range many) (enc := fun i : Nat => .int i) [4] (fun i ds' M' => ∃ (eds : List Spot) (a b : Option Ds), ds' = [some (.adr p), some (.dat (.int many)), some (.dat (.list (pl.map fun i : Nat => PyData.int i))), some (.adr q), a, b] ∧ M' q = some (.lst (dats (eds.map spD))) ∧ eds.length = i ∧ (∀ e ∈ eds, e.1 ≤ many ∧ e.2 ≤ many) ∧
    (∀ A : Nat → Prop, (∀ e ∈ eds, (A e.1 ↔ A e.2)) → ∀ x y, x ≤ i → y ≤ i → (A (pl.getD x 0) ↔ A (pl.getD y 0))) ∧ Src M' p (N + (many + 1) + 2 * i) ∧ SubP p M M') (xd_len0 (by omega) <| xa_cons <| xp_var rfl <| xa_nil ⟨rfl, rfl⟩) ⟨[], _, _, rfl, MH.up_same, rfl, fun e h => (by cases h), fun A _ x y hx hy => (by rw [Nat.le_zero.mp hx, Nat.le_zero.mp hy]), s2.up qne, sub2.new hq0⟩ ?_ ?_)
  · rintro i i' ds' M' hi ⟨eds, a, b, rfl, hMq, hlen, hin, hlk, s3, sub3⟩
    obtain ⟨hi', rfl⟩ := range_at hi
    refine xg_name (by decide) <| xs_seq <| xs_set <| xp_tup <| xa_cons <| xp_op <| xp_var rfl <| xp_call <| xa_cons <| xp_var rfl <| xa_cons <| xp_op <| xp_var rfl <| xp_int <| xo_i0 <| xa_nil ⟨p, N + (many + 1) + 2 * i, i + 1, by omega, by omega, by omega, s3, rfl, fun r M4 hr s4 sub4 => ?_⟩
    refine xo_ixL (at_nat (hplat r (by omega))) <| xa_cons <| xp_op <| xp_var rfl <| xp_op <| xp_var rfl <| xp_int <| xo_i0 <| xo_ixL (at_nat (j := i + 1) (hplat (i + 1) (by omega))) <| xa_nil ⟨[_, _], rfl, (show 2 ≤ 100000 by decide), ?_⟩
    have hq4 : M4 q = some (.lst (dats (eds.map spD))) := sub4 q _ qne hMq
    refine xs_app2 rfl hq4 (by rw [List.length_map]; omega) ?_
    refine xp_op <| xp_lst <| xa_cons <| xp_var rfl <| xa_cons <| xp_revT <| xp_var rfl ⟨_, _, rfl, xa_nil ⟨[spD (pl.getD r 0, pl.getD (i + 1) 0), spD (pl.getD (i + 1) 0, pl.getD r 0)], rfl, (show 2 ≤ 100000 by decide), ?_⟩⟩
    refine xp_call <| xa_cons <| xp_var rfl <| xa_cons <| xp_int <| xa_nil ⟨p, N + (many + 1) + 2 * i + 1, 2, by decide, by decide, by omega, s4, rfl, fun z M5 hz s5 sub5 => ?_⟩
    obtain ⟨e, he, hz'⟩ : ∃ e : Spot, (e = (pl.getD r 0, pl.getD (i + 1) 0) ∨ e = (pl.getD (i + 1) 0, pl.getD r 0)) ∧ [spD (pl.getD r 0, pl.getD (i + 1) 0), spD (pl.getD (i + 1) 0, pl.getD r 0)][z]? = some (spD e) := by
      match z, hz with
      | 0, _ => exact ⟨_, .inl rfl, rfl⟩
      | 1, _ => exact ⟨_, .inr rfl, rfl⟩
    have b1 := hplm r (by omega)
    have b2 := hplm (i + 1) (by omega)
    refine xo_ixL (at_nat hz') ⟨(sub5 q _ qne hq4).trans hq4.symm, spD e, rfl, eds ++ [e], _, _, rfl, by rw [MH.up_same, List.map_append]; rfl, by rw [List.length_append, hlen]; rfl, fun e' h' => ?_, fun A hA x y hx hy => ?_, s5.up qne, ((sub3.trans sub4).trans sub5).new hq0⟩
    · rcases List.mem_append.mp h' with h' | h'
      · exact hin e' h'
      · obtain rfl := List.mem_singleton.mp h'
        rcases he with rfl | rfl
        · exact ⟨b1, b2⟩
        · exact ⟨b2, b1⟩
    · have old := hlk A fun e' h' => hA e' (List.mem_append_left _ h')
      have new : A (pl.getD r 0) ↔ A (pl.getD (i + 1) 0) := by
        have := hA e (List.mem_append_right _ (List.mem_singleton.mpr rfl))
        rcases he with rfl | rfl
        · exact this
        · exact this.symm
      have all : ∀ x, x ≤ i + 1 → (A (pl.getD x 0) ↔ A (pl.getD r 0)) := fun x hx => by
        by_cases e : x = i + 1
        · rw [e]; exact new.symm
        · exact old x r (by omega) (by omega)
      exact (all x hx).trans (all y hy).symm
  · rintro ds' M' ⟨eds, a, b, rfl, hMq, hlen, hin, hlk, s3, sub3⟩
    rw [List.length_range] at hlen hlk s3
    have L : Linked eds many := linked_made hpl hlk
    have hl2 : (eds.map spD).length = many := by rw [List.length_map]; exact hlen
    refine xs_frzV (i := 3) rfl hMq ?_
    refine xs_ret <| xp_call <| xa_cons <| xp_var rfl <| xa_cons <| xp_var rfl <| xa_nil ⟨p, N + (many + 1) + 2 * many, eds.map spD, by omega, sh_spots, by omega, s3.del qne, rfl, fun es f M5 hp hf hMf s5 sub5 => ?_⟩
    obtain ⟨eds', rfl, he'⟩ := perm_inv unS_sp hp
    have sub6 := sub3.del hq0
    have hf0 := src.fresh (s3.del qne) sub6 hf
    exact k eds' (he'.length_eq.trans hlen) (fun e h => hin e (he'.mem_iff.mp h)) (L.perm he') f M5 hf0 hMf (s5.mono (by omega)) (sub6.trans sub5)
end
end K62
end
section
set_option Elab.async false
set_option linter.all false
set_option maxRecDepth 100000
set_option maxHeartbeats 4000000
set_option autoImplicit false
namespace K62
open PySem L2
def encL (F : Far) : List (L2.Key × Ds) := F.map fun z => (Sum.inl (z.1 : Int), .dat (rowD z.2))
theorem inl_nat {a b : Nat} (h : (Sum.inl (a : Int) : L2.Key) = Sum.inl (b : Int)) : a = b := by injection h with h; exact Int.ofNat_inj.mp h
theorem lookL_none {F : Far} {x : Nat} (h : x ∉ fkeys F) : lookK (encL F) (Sum.inl (x : Int)) = none := by
  unfold lookK encL
  rw [List.find?_eq_none.mpr]
  · rfl
  · intro q hq
    obtain ⟨a, ha, rfl⟩ := List.mem_map.mp hq
    rw [decide_eq_true_iff]
    exact fun e => h (List.mem_map.mpr ⟨a, ha, inl_nat e⟩)
theorem lookL_some {F : Far} {x : Nat} {v : List Int} (hn : (fkeys F).Nodup) (h : (x, v) ∈ F) : lookK (encL F) (Sum.inl (x : Int)) = some (.dat (rowD v)) := by
  induction F with
  | nil => cases h
  | cons a F ih =>
    obtain ⟨h1, h2⟩ := List.nodup_cons.mp (show (a.1 :: fkeys F).Nodup from hn)
    unfold lookK encL
    rw [List.map_cons, List.find?_cons]
    rcases List.mem_cons.mp h with rfl | h
    · simp
    · have ne : a.1 ≠ x := fun e => h1 (e ▸ List.mem_map.mpr ⟨(x, v), h, rfl⟩)
      rw [show decide ((Sum.inl (a.1 : Int) : L2.Key) = Sum.inl (x : Int)) = false from decide_eq_false fun e => ne (inl_nat e)]
      exact ih h2 h
theorem putL_new {F : Far} {x : Nat} {v : List Int} (h : x ∉ fkeys F) : putM (encL F) (Sum.inl (x : Int)) (.dat (rowD v)) = encL (F ++ [(x, v)]) := by
  unfold putM encL
  rw [if_neg]
  · rw [List.map_append]; rfl
  · rw [List.any_eq_true]
    rintro ⟨q, hq, e⟩
    obtain ⟨a, ha, rfl⟩ := List.mem_map.mp hq
    exact h (List.mem_map.mpr ⟨a, ha, inl_nat (of_decide_eq_true e)⟩)
theorem xc_lenD {M : MH} {Φ : Ds → MH → Prop} {K : PySem.W.Frag} {p : Addr} {kvs : List (L2.Key × Ds)} (hp : M p = some (.dK kvs)) (k : Φ (.dat (.int kvs.length)) M) : Xc K (fun xs H Q => ∃ a kvs, xs = [V.ref a] ∧ H a = some (.dK kvs) ∧ Q (.int kvs.length) H) [.adr p] M Φ := fun G H us I d Q q => by
  cases d with
  | cons d1 d2 =>
    cases d2
    cases d1
    obtain ⟨_, o, e, m⟩ := I.ob p _ hp
    obtain ⟨us, rfl, hv⟩ := m.dK
    refine ⟨p, us, rfl, e, ?_⟩
    rw [hv.length]
    exact q _ (.dat (.int kvs.length)) M G H (.refl I) (Da.int _) k
def stepN (k many : Nat) : List Int := (List.range many).map fun o => if k = o then 1 else 0
theorem zip_get {f : Int → Int → Int} {v u : List Int} {n : Nat} (hv : v.length = n) (hu : u.length = n) (h0 : f 0 0 = 0) (j : Nat) : (List.zipWith f v u).getD j 0 = f (v.getD j 0) (u.getD j 0) := by
  simp only [List.getD_eq_getElem?_getD, List.getElem?_zipWith]
  by_cases h : j < n
  · rw [List.getElem?_eq_getElem (by omega : j < v.length), List.getElem?_eq_getElem (by omega : j < u.length)]; rfl
  · rw [List.getElem?_eq_none (by omega : v.length ≤ j), List.getElem?_eq_none (by omega : u.length ≤ j)]; exact h0.symm
theorem step_get {k many : Nat} (hk : k < many) (j : Nat) : (stepN k many).getD j 0 = if k = j then 1 else 0 := by
  unfold stepN
  rw [List.getD_eq_getElem?_getD, List.getElem?_map]
  by_cases h : j < many
  · rw [List.getElem?_range h]; rfl
  · rw [List.getElem?_eq_none (by rw [List.length_range]; omega), if_neg (by omega)]; rfl
section
variable {P : Program} {w : World} {K : PySem.W.Frag} {mg : Str → Option Value} {base : Heap}
/-- [f a b for a, b in zip(v, u)] -/
theorem xp_zipD {ds : DS} {M : MH} {Φ : Ds → MH → Prop} {te : TE} {vs : List Nat} {a b : Nat} {v u : List Int} {n : Nat} {ar : TA} {f : Int → Int → Int} (hn : n < 1000) (hv : v.length = n) (hu : u.length = n) (ha : a ∈ vs) (hb : b ∈ vs)
    (h1 : Xa K ar ds M fun xs M1 => xs = [.dat (rowD v), .dat (rowD u)] ∧ M1 = M) (h : ∀ x y, Xp K te (((wipeD ds vs).set a (some (.dat (.int x)))).set b (some (.dat (.int y)))) M fun z M5 => M5 = M ∧ z = .dat (.int (f x y))) (k : Φ (.dat (rowD (List.zipWith f v u))) M) :
    Xp K (tLc (iZip K ar) (gTup K 2 (gCons (gName a) (gCons (gName b) gNil))) tYes te vs) ds M Φ := by
  refine xp_mapD (l := v.zip u) (enc := fun q => .tuple [.int q.1, .int q.2]) (fun q => .int (f q.1 q.2)) ?_ (by rw [List.length_zip]; omega) ?_ ?_
  · rw [← zipD_map PyData.int PyData.int]
    exact xd_zip (by rw [List.length_map, List.length_map, hv, hu]) h1
  · rintro j ⟨x, y⟩ hj
    exact xg_tup rfl <| xgs_cons <| xg_name ha <| xgs_cons <| xg_name hb <| xgs_nil ⟨rfl, h x y⟩
  · rw [show (v.zip u).map (fun q => PyData.int (f q.1 q.2)) = nums (List.zipWith f v u) by rw [nums, List.map_zipWith, List.zip, List.map_zipWith]]
    exact k
def p_net : SpP := fun xs M Φ => ∃ (many wide : Nat) (eds arcs : List Spot), 1 ≤ many ∧ many ≤ 5 ∧ 1 ≤ wide ∧ wide ≤ 5 ∧ eds.length = many ∧ arcs.length = wide ∧ (∀ e ∈ eds, e.1 ≤ many ∧ e.2 ≤ many) ∧ (∀ e ∈ arcs, e.1 ≤ many ∧ e.2 ≤ many) ∧ Linked eds many ∧
  xs = [.dat (.list (eds.map spD)), .dat (.list (arcs.map spD))] ∧ ∀ es, TabOk okPm es many wide → Φ (.dat (.list es)) M
theorem ok_law_net (T : Txt w K mg) : FnOk P w K mg base CX0 1 T.d_law_net.f T.d_law_net.fd ["_law_ends_here", "_law_arcs"] (spE K p_net) := by
  refine fn_ok T.d_law_net.F sc_law_net (fun xs M Φ ⟨_, _, _, _, _, _, _, _, _, _, _, _, _, h, _⟩ => by rw [h]; rfl) fun cdv A outer s H E hr => ?_
  have nd := sc_law_net.nd
  refine ⟨_, (pss_cons (ps_set (i := 2) nd rfl (Or.inr rfl) (pe_disp (pps_cons (pe_ix (k_ix (K := K) rfl) (pe_ix (k_ix (K := K) rfl) (pv 0) pe_int (fun _ _ => rfl)) pe_int (fun _ _ => rfl)) (pe_op op_rep (pe_lst (pa_cons pe_int pa_nil)) (pe_callB (k_len (K := K) rfl) (by rfl) T.z_len (by decide +kernel) (pa_cons (pv 0) pa_nil))) pps_nil) rfl rfl (fun z => by cases z) (by decide)))
      (pss_cons (ps_while PassesOwn.never (pt_cmpR op_le (pe_callB call_lenD (by rfl) T.z_len (by decide +kernel) (pa_cons (pv 2) pa_nil)) (pe_callB (k_len (K := K) rfl) (by rfl) T.z_len (by decide +kernel) (pa_cons (pv 0) pa_nil)) (nomark _)) (pss_one (ps_for PassesOwn.never rfl (kiE (K := K) rfl (pi_enum (by rfl) T.z_enumerate (pa_cons (pv 0) pa_nil))) (kgT (K := K) rfl (pg_tup (n := 2) rfl (pgs_cons (pg_name (i := 3) nd rfl (Or.inr rfl)) (pgs_cons (kgT (K := K) rfl (pg_tup (n := 2) rfl (pgs_cons (pg_name (i := 4) nd rfl (Or.inl rfl)) (pgs_cons (pg_name (i := 5) nd rfl (Or.inl rfl)) pgs_nil)))) pgs_nil)))) (pss_cons (ps_setLc (i := 6) (own := [("_law_other", 7)]) rfl nd rfl rfl (sw_true rfl rfl rfl (by decide +kernel)) (pi_range1 (by rfl) T.z_range (pa_cons (pe_callB (k_len (K := K) rfl) (by rfl) T.z_len (by decide +kernel) (pa_cons (pv 0) pa_nil)) pa_nil)) (blkOk_by (by kernel_rfl)) (fun _ _ _ _ _ => (pg_name (i := 7) nd rfl (Or.inl rfl))) (fun _ _ _ _ _ => pts_nil) (fun _ _ _ _ _ => (pe_callTy call_int1 (by rfl) T.z_int (by decide +kernel) (pa_cons (pe_cmpR (k_eq (K := K) rfl (u64 hr)) (pv 3) (pv 7) (nomark _)) pa_nil))))
      (pss_one (ps_if (PW.pt (pw_and (pt_cmp (pc_din (hu_of hr) (pv 4) (pv 2))) (pw_and1 (pt_cmp (pc_dnotin (hu_of hr) (pv 5) (pv 2)))))) (pss_one (ps_dput (hu_of hr) (pv 2) (pv 5) (pe_lc (own := [("_law_a", 8), ("_law_b", 9)]) rfl nd (kiZ (K := K) rfl (pi_zip (by rfl) T.z_zip (pa_cons (pe_dget (hu_of hr) (pv 2) (pv 4) (fun _ _ => rfl)) (pa_cons (pv 6) pa_nil)))) (blkOk_by (by kernel_rfl)) (fun _ _ _ _ _ => (kgT (K := K) rfl (pg_tup (n := 2) rfl (pgs_cons (pg_name (i := 8) nd rfl (Or.inl rfl)) (pgs_cons (pg_name (i := 9) nd rfl (Or.inl rfl)) pgs_nil))))) (fun _ _ _ _ _ => pts_nil) (fun _ _ _ _ _ => (pe_op op_add (pv 8) (pv 9)))) rfl)) (pss_one (ps_if (PW.pt (pw_and (pt_cmp (pc_din (hu_of hr) (pv 5) (pv 2))) (pw_and1 (pt_cmp (pc_dnotin (hu_of hr) (pv 4) (pv 2)))))) (pss_one (ps_dput (hu_of hr) (pv 2) (pv 4) (pe_lc (own := [("_law_a", 8), ("_law_b", 9)]) rfl nd (kiZ (K := K) rfl (pi_zip (by rfl) T.z_zip (pa_cons (pe_dget (hu_of hr) (pv 2) (pv 5) (fun _ _ => rfl)) (pa_cons (pv 6) pa_nil)))) (blkOk_by (by kernel_rfl)) (fun _ _ _ _ _ => (kgT (K := K) rfl (pg_tup (n := 2) rfl (pgs_cons (pg_name (i := 8) nd rfl (Or.inl rfl)) (pgs_cons (pg_name (i := 9) nd rfl (Or.inl rfl)) pgs_nil))))) (fun _ _ _ _ _ => pts_nil) (fun _ _ _ _ _ => (pe_op op_sub (pv 8) (pv 9)))) rfl)) pss_nil))))))))
      (pss_one (ps_ret (pe_lc (own := [("_law_k", 3)]) rfl nd (pi_range1 (by rfl) T.z_range (pa_cons (pe_callB (k_len (K := K) rfl) (by rfl) T.z_len (by decide +kernel) (pa_cons (pv 0) pa_nil)) pa_nil)) (blkOk_by (by kernel_rfl)) (fun _ _ _ _ _ => (pg_name (i := 3) nd rfl (Or.inr rfl))) (fun _ _ _ _ _ => pts_nil) (fun _ _ _ _ _ => (pe_lc (own := [("_law_begin", 4), ("_law_goal", 5)]) rfl nd (kiL (K := K) rfl (pi_list (pv 1))) (blkOk_by (by kernel_rfl)) (fun _ _ _ _ _ => (kgT (K := K) rfl (pg_tup (n := 2) rfl (pgs_cons (pg_name (i := 4) nd rfl (Or.inl rfl)) (pgs_cons (pg_name (i := 5) nd rfl (Or.inl rfl)) pgs_nil))))) (fun _ _ _ _ _ => pts_nil) (fun _ _ _ _ _ => (pe_op op_sub (pe_ix (k_ix (K := K) rfl) (pe_dget (hu_of hr) (pv 2) (pv 5) (fun _ _ => rfl)) (pv 3) (fun _ _ => rfl)) (pe_ix (k_ix (K := K) rfl) (pe_dget (hu_of hr) (pv 2) (pv 4) (fun _ _ => rfl)) (pv 3) (fun _ _ => rfl))))))))))), ?_⟩
  rintro xs M Φ ⟨many, wide, eds, arcs, a1, a2, a3, a4, hel, hal, hei, hai, L, rfl, k⟩
  refine xs_pure ?_
  have e0 : eds[0]? = some eds[0] := List.getElem?_eq_getElem (by omega)
  have el : (eds.map spD).length = many := by rw [List.length_map, hel]
  refine xs_seq <| xs_set <| xp_disp1 fun d hd => ?_
  refine xp_op <| xp_op <| xp_var rfl <| xp_int <| xo_ixL (at_nat (j := 0) (map_at e0)) <| xp_int <| xo_ixT (at_nat (j := 0) rfl) ?_
  refine xp_op <| xp_lst <| xa_cons <| xp_int <| xa_nil ⟨[.int 0], rfl, len1, xp_cb <| xa_cons <| xp_var rfl <| xa_nil <| xc_len (.dat _) ?_⟩
  rw [el]
  refine xo_rep (by omega) ⟨_, rfl, MH.up_same, ?_⟩
  have n0 : NInv eds many [(eds[0].1, List.replicate many 0)] := NInv.beg (hei _ (List.getElem_mem _)).1
  have eF : ((M.up d (.dK [])).up d (.dK [(Sum.inl (eds[0].1 : Int), .dat (.list (List.replicate many (.int 0))))])) d = some (.dK (encL [(eds[0].1, List.replicate many 0)])) := by
    rw [MH.up_same]
    unfold encL
    rw [List.map_cons, rowD, nums, List.map_replicate]; rfl
  refine xs_seq <| xs_while (Wf := fun μ ds' M' => ∃ (F : Far) (a b c e f g h : Option Ds), ds' = [some (.dat (.list (eds.map spD))), some (.dat (.list (arcs.map spD))), some (.adr d), a, b, c, e, f, g, h] ∧ Sub M M' ∧ M' d = some (.dK (encL F)) ∧ NInv eds many F ∧ μ + F.length = many + 1) many ⟨_, _, _, _, _, _, _, _, rfl, (Sub.up hd).new hd, eF, n0, rfl⟩ ?_
  rintro μ ds' M' ⟨F, a, b, c, e, f, g, h, rfl, sub, hD, NI, hμ⟩
  have hFl : (encL F).length = F.length := by unfold encL; rw [List.length_map]
  refine xt_tst <| xp_op <| xp_cb <| xa_cons <| xp_var rfl <| xa_nil <| xc_lenD hD <| xp_cb <| xa_cons <| xp_var rfl <| xa_nil <| xc_len (.dat _) <| xo_b0 ⟨_, rfl, fun hle => ?_, fun hgt => ?_⟩
  · have hle := of_decide_eq_true hle
    rw [hFl, el] at hle
    have hle' : F.length ≤ many := by omega
    refine ⟨fun ds' M' => ∃ (F' : Far) (a b c e f g h : Option Ds), ds' = [some (.dat (.list (eds.map spD))), some (.dat (.list (arcs.map spD))), some (.adr d), a, b, c, e, f, g, h] ∧ Sub M M' ∧ M' d = some (.dK (encL F')) ∧ NInv eds many F' ∧ F.length < F'.length, ?_, ?_⟩
    · rintro ds2 M2 ⟨F', a, b, c, e, f, g, h, h1, h2, h3, h4, h5⟩
      have := h4.few
      exact ⟨many + 1 - F'.length, by omega, F', a, b, c, e, f, g, h, h1, h2, h3, h4, by omega⟩
    · refine xs_forW (Gd0 := fun _ => True) (l := eds.zipIdx) (enc := fun z => .tuple [.int (z.2 : Nat), spD z.1]) [3, 4, 5] (fun i ds' M' => ∃ (G : Far) (a b c e f g h : Option Ds), ds' = [some (.dat (.list (eds.map spD))), some (.dat (.list (arcs.map spD))), some (.adr d), a, b, c, e, f, g, h] ∧ Sub M M' ∧ M' d = some (.dK (encL (F ++ G))) ∧ NInv eds many (F ++ G) ∧ (G = [] → ∀ e ∈ eds.take i, (e.1 ∈ fkeys F ↔ e.2 ∈ fkeys F))) ?_ (fun _ _ _ _ => trivial) ⟨[], _, _, _, _, _, _, _, rfl, sub, by rw [List.append_nil]; exact hD, by rw [List.append_nil]; exact NI, fun _ e he => (by rw [List.take_zero] at he; cases he)⟩ ?_ ?_
      · rw [← enumD_map spD]
        exact xd_enum <| xa_cons <| xp_var rfl <| xa_nil ⟨rfl, rfl⟩
      · rintro i ⟨⟨u, v⟩, i'⟩ ds' M2 hi ⟨G, a, b, c, e, f, g, h, rfl, sub2, hD2, NI2, hG⟩
        obtain ⟨hi0, hiu⟩ : eds[i]? = some (u, v) ∧ i' = i := by
          rw [List.getElem?_zipIdx] at hi
          cases q : eds[i]? with
          | none => rw [q] at hi; cases hi
          | some x =>
            rw [q] at hi
            have := Option.some.inj hi
            injection this with h1 h2
            exact ⟨by rw [h1], by omega⟩
        subst hiu
        have hil : i' < many := by rw [← hel]; exact (List.getElem?_eq_some_iff.mp hi0).1
        have hmem := List.mem_of_getElem? hi0
        have huv := hei _ hmem
        refine xg_tup rfl <| xgs_cons <| xg_name (by decide) <| xgs_cons (xg_tup rfl <| xgs_cons <| xg_name (by decide) <| xgs_cons <| xg_name (by decide) <| xgs_nil <| xgs_nil ?_)
        refine xs_seq <| xs_set ?_
        refine xp_mapD (l := List.range many) (enc := fun i : Nat => .int i) (fun o => .int (if i' = o then 1 else 0)) (xd_len0 (n := many) (by omega) <| xa_cons <| xp_cb <| xa_cons <| xp_var rfl <| xa_nil <| xc_len (.dat _) <| xa_nil ⟨by rw [el], rfl⟩) (by rw [List.length_range]; omega) ?_ ?_
        · intro o o' ho
          obtain ⟨ho', rfl⟩ := range_at ho
          refine xg_name (by decide) ⟨rfl, xp_cb <| xa_cons <| xp_op <| xp_var rfl <| xp_var rfl <| xo_eqD (.dat _) (.dat _) (shD.int _ _) (shD.int _ _) <| xa_nil <| xc_intB ⟨rfl, ?_⟩⟩
          rw [eqv_nat]
          by_cases z : i' = o
          · rw [decide_eq_true z, if_pos z, if_pos rfl]
          · rw [decide_eq_false z, if_neg z]; rfl
        · rw [show (List.range many).map (fun o => PyData.int (if i' = o then 1 else 0)) = nums (stepN i' many) by rw [nums, stepN, List.map_map]; rfl]
          have hsl : (stepN i' many).length = many := by unfold stepN; rw [List.length_map, List.length_range]
          have look : ∀ x, x ∈ fkeys (F ++ G) → ∃ vec, (x, vec) ∈ F ++ G ∧ vec.length = many ∧ lookK (encL (F ++ G)) (Sum.inl (x : Int)) = some (.dat (rowD vec)) := fun x hx => by
            obtain ⟨⟨x', vec⟩, hz, rfl⟩ := List.mem_map.mp hx
            exact ⟨vec, hz, (NI2.le _ hz).2, lookL_some NI2.nd hz⟩
          have lenG : (encL (F ++ G)).length < 100000 := by
            have := NI2.few
            unfold encL; rw [List.length_map]; omega
          have hput : ∀ (y : Nat) (wv : List Int), y ∉ fkeys (F ++ G) → KeyPut M2 d (.dat (rowD wv)) (.dat (.int (y : Nat))) (M2.up d (.dK (encL ((F ++ G) ++ [(y, wv)])))) := fun y wv hy => by
            have := KeyPut.k (M := M2) (p := d) (x := .dat (rowD wv)) (Sum.inl (y : Int)) hD2 lenG
            rw [putL_new hy] at this
            exact this
          have stay : (u ∈ fkeys (F ++ G) ↔ v ∈ fkeys (F ++ G)) → G = [] → ∀ e ∈ eds.take (i' + 1), (e.1 ∈ fkeys F ↔ e.2 ∈ fkeys F) := fun hiff hg e he => by
            rw [List.take_add_one, hi0] at he
            rcases List.mem_append.mp he with he | he
            · exact hG hg e he
            · obtain rfl : e = (u, v) := by simpa using he
              rw [hg, List.append_nil] at hiff
              exact hiff
          have grown : ∀ (y : Nat) (wv : List Int), F ++ G ++ [(y, wv)] = F ++ (G ++ [(y, wv)]) := fun y wv => List.append_assoc ..
          by_cases hu : u ∈ fkeys (F ++ G)
          · obtain ⟨vec, hvec, hvl, hlook⟩ := look u hu
            by_cases hv : v ∈ fkeys (F ++ G)
            · obtain ⟨vec2, _, _, hlook2⟩ := look v hv
              refine xs_if <| xt_and <| xt_tst <| xp_din <| xp_var rfl <| xp_var rfl ⟨d, _, rfl, KeyAt.k (Sum.inl (u : Int)) hD2, _, rfl, yes (by rw [hlook]; rfl) ?_⟩
              refine xt_tst <| xp_dni <| xp_var rfl <| xp_var rfl ⟨d, _, rfl, KeyAt.k (Sum.inl (v : Int)) hD2, _, rfl, no (by rw [hlook2]; rfl) ?_⟩
              refine xs_if <| xt_and <| xt_tst <| xp_din <| xp_var rfl <| xp_var rfl ⟨d, _, rfl, KeyAt.k (Sum.inl (v : Int)) hD2, _, rfl, yes (by rw [hlook2]; rfl) ?_⟩
              refine xt_tst <| xp_dni <| xp_var rfl <| xp_var rfl ⟨d, _, rfl, KeyAt.k (Sum.inl (u : Int)) hD2, _, rfl, no (by rw [hlook]; rfl) <| xs_nil ⟨G, _, _, _, _, _, _, _, rfl, sub2, hD2, NI2, stay ⟨fun _ => hv, fun _ => hu⟩⟩⟩
            · refine xs_if <| xt_and <| xt_tst <| xp_din <| xp_var rfl <| xp_var rfl ⟨d, _, rfl, KeyAt.k (Sum.inl (u : Int)) hD2, _, rfl, yes (by rw [hlook]; rfl) ?_⟩
              refine xt_tst <| xp_dni <| xp_var rfl <| xp_var rfl ⟨d, _, rfl, KeyAt.k (Sum.inl (v : Int)) hD2, _, rfl, yes (by rw [lookL_none hv]; rfl) ?_⟩
              refine xs_dput ?_
              refine xp_zipD (f := fun a b => a + b) (n := many) (by omega) hvl hsl (by decide) (by decide) (xa_cons <| xp_dget <| xp_var rfl <| xp_var rfl ⟨d, .dat (rowD vec), rfl, hlook ▸ KeyAt.k (Sum.inl (u : Int)) hD2, xa_cons <| xp_var rfl <| xa_nil ⟨rfl, rfl⟩⟩) (fun x y => xp_op <| xp_var rfl <| xp_var rfl <| xo_i0 ⟨rfl, rfl⟩) ?_
              refine xp_var rfl <| xp_var rfl ⟨d, _, rfl, hput v _ hv, G ++ [(v, List.zipWith (fun a b => a + b) vec (stepN i' many))], _, _, _, _, _, _, _, rfl, sub2.new hd, by rw [MH.up_same, grown], ?_, fun hg => by simp at hg⟩
              rw [← grown]
              exact NI2.add hi0 hvec hv huv.2 (.inl ⟨rfl, rfl⟩) (.inl rfl) (by rw [List.length_zipWith, hvl, hsl, Nat.min_self]) fun j => by rw [zip_get hvl hsl rfl, step_get hil]
          · by_cases hv : v ∈ fkeys (F ++ G)
            · obtain ⟨vec, hvec, hvl, hlook⟩ := look v hv
              refine xs_if <| xt_and <| xt_tst <| xp_din <| xp_var rfl <| xp_var rfl ⟨d, _, rfl, KeyAt.k (Sum.inl (u : Int)) hD2, _, rfl, no (by rw [lookL_none hu]; rfl) ?_⟩
              refine no rfl ?_
              refine xs_if <| xt_and <| xt_tst <| xp_din <| xp_var rfl <| xp_var rfl ⟨d, _, rfl, KeyAt.k (Sum.inl (v : Int)) hD2, _, rfl, yes (by rw [hlook]; rfl) ?_⟩
              refine xt_tst <| xp_dni <| xp_var rfl <| xp_var rfl ⟨d, _, rfl, KeyAt.k (Sum.inl (u : Int)) hD2, _, rfl, yes (by rw [lookL_none hu]; rfl) ?_⟩
              refine xs_dput ?_
              refine xp_zipD (f := fun a b => a - b) (n := many) (by omega) hvl hsl (by decide) (by decide) (xa_cons <| xp_dget <| xp_var rfl <| xp_var rfl ⟨d, .dat (rowD vec), rfl, hlook ▸ KeyAt.k (Sum.inl (v : Int)) hD2, xa_cons <| xp_var rfl <| xa_nil ⟨rfl, rfl⟩⟩) (fun x y => xp_op <| xp_var rfl <| xp_var rfl <| xo_i0 ⟨rfl, rfl⟩) ?_
              refine xp_var rfl <| xp_var rfl ⟨d, _, rfl, hput u _ hu, G ++ [(u, List.zipWith (fun a b => a - b) vec (stepN i' many))], _, _, _, _, _, _, _, rfl, sub2.new hd, by rw [MH.up_same, grown], ?_, fun hg => by simp at hg⟩
              rw [← grown]
              exact NI2.add hi0 hvec hu huv.1 (.inr ⟨rfl, rfl⟩) (t := -1) (.inr rfl) (by rw [List.length_zipWith, hvl, hsl, Nat.min_self]) fun j => by rw [zip_get hvl hsl rfl, step_get hil]; split <;> omega
            · refine xs_if <| xt_and <| xt_tst <| xp_din <| xp_var rfl <| xp_var rfl ⟨d, _, rfl, KeyAt.k (Sum.inl (u : Int)) hD2, _, rfl, no (by rw [lookL_none hu]; rfl) ?_⟩
              refine no rfl ?_
              refine xs_if <| xt_and <| xt_tst <| xp_din <| xp_var rfl <| xp_var rfl ⟨d, _, rfl, KeyAt.k (Sum.inl (v : Int)) hD2, _, rfl, no (by rw [lookL_none hv]; rfl) ?_⟩
              exact no rfl <| xs_nil ⟨G, _, _, _, _, _, _, _, rfl, sub2, hD2, NI2, stay ⟨fun z => absurd z hu, fun z => absurd z hv⟩⟩
      · rintro ds' M2 ⟨G, a, b, c, e, f, g, h, rfl, sub2, hD2, NI2, hG⟩
        refine ⟨F ++ G, _, _, _, _, _, _, _, rfl, sub2, hD2, NI2, ?_⟩
        have hne : G ≠ [] := fun hg => by
          have hcl := NI.closed L fun e he => hG hg e (by rw [List.length_zipIdx, List.take_length]; exact he)
          omega
        rw [List.length_append]
        have := List.length_pos_iff.mpr hne
        omega
  · have hgt := of_decide_eq_false hgt
    rw [hFl, el] at hgt
    have full := NI.full (by omega)
    have look : ∀ x, x ≤ many → ∃ vec, (x, vec) ∈ F ∧ vec.length = many ∧ lookK (encL F) (Sum.inl (x : Int)) = some (.dat (rowD vec)) := fun x hx => by
      obtain ⟨⟨x', vec⟩, hz, rfl⟩ := List.mem_map.mp (full x hx)
      exact ⟨vec, hz, (NI.le _ hz).2, lookL_some NI.nd hz⟩
    refine xs_ret ?_
    refine xp_mapR (Gd0 := fun _ => True) (l := List.range many) (enc := fun i : Nat => .int i) (fun _ d => RowOk okPm wide d) (xd_len0 (n := many) (by omega) <| xa_cons <| xp_cb <| xa_cons <| xp_var rfl <| xa_nil <| xc_len (.dat _) <| xa_nil ⟨by rw [el], rfl⟩) trivial (by rw [List.length_range]; omega) ?_ fun rs hrs => ⟨sub, k rs ⟨a1, a2, a3, a4, by rw [← hrs.length, List.length_range], fun d hd => ?_⟩⟩
    · intro r r' hr'
      obtain ⟨hrm, rfl⟩ := range_at hr'
      refine xg_name (by decide) ⟨rfl, ?_⟩
      refine xp_mapR (Gd0 := fun _ => True) (l := arcs) (enc := spD) (fun _ d => Ent okPm d) (xd_var rfl) trivial (by omega) ?_ fun qs hqs => ⟨rfl, _, rfl, ?_⟩
      · rintro j ⟨x, y⟩ hj
        obtain ⟨hx, hy⟩ := hai _ (List.mem_of_getElem? hj)
        obtain ⟨v1, m1, l1, k1⟩ := look x hx
        obtain ⟨v2, m2, l2, k2⟩ := look y hy
        have g1 : (nums v1)[r]? = some (.int (v1.getD r 0)) := by rw [List.getElem?_map, List.getD_eq_getElem?_getD, List.getElem?_eq_getElem (by omega : r < v1.length)]; rfl
        have g2 : (nums v2)[r]? = some (.int (v2.getD r 0)) := by rw [List.getElem?_map, List.getD_eq_getElem?_getD, List.getElem?_eq_getElem (by omega : r < v2.length)]; rfl
        refine xg_tup rfl <| xgs_cons <| xg_name (by decide) <| xgs_cons <| xg_name (by decide) <| xgs_nil ⟨rfl, ?_⟩
        refine xp_op <| xp_op <| xp_dget <| xp_var rfl <| xp_var rfl ⟨d, .dat (rowD v2), rfl, k2 ▸ KeyAt.k (Sum.inl (y : Int)) hD, xp_var rfl <| xo_ixL (at_nat g2) <| xp_op <| xp_dget <| xp_var rfl <| xp_var rfl ⟨d, .dat (rowD v1), rfl, k1 ▸ KeyAt.k (Sum.inl (x : Int)) hD, xp_var rfl <| xo_ixL (at_nat g1) <| xo_i0 ⟨rfl, _, rfl, _, rfl, NI.diff m2 m1 r⟩⟩⟩
      · obtain ⟨rr, rfl, h1, h2⟩ := row_of (fun _ _ h => h) hqs
        exact ⟨rr, rfl, h1.trans hal, h2⟩
    · obtain ⟨_, _, h⟩ := Paired.mem2 hrs d hd
      exact h
end
end K62
end
section
set_option Elab.async false
set_option linter.all false
set_option maxRecDepth 100000
set_option maxHeartbeats 4000000
set_option autoImplicit false
namespace K62
open PySem L2
theorem okr {k : Nat} (h : k < 2) : ok01 (k : Nat) := by
  match k, h with
  | 0, _ => exact .inl rfl
  | 1, _ => exact .inr rfl
section
variable {P : Program} {w : World} {K : PySem.W.Frag} {mg : Str → Option Value} {base : Heap}
def p_net_drawn : SpP := fun xs M Φ => ∃ (p : Addr) (N many wide : Nat), 1 ≤ many ∧ many ≤ 5 ∧ 1 ≤ wide ∧ wide ≤ 5 ∧ N < 800000 ∧ Src M p N ∧ xs = [.adr p, .dat (.int many), .dat (.int wide)] ∧ tabP okPm many wide p N 31 M Φ
theorem ok_law_net_drawn (T : Txt w K mg) : FnOk P w K mg base CX0 4 T.d_law_net_drawn.f T.d_law_net_drawn.fd ["_law_source", "_law_many", "_law_wide"] (spE K p_net_drawn) := by
  refine fn_ok T.d_law_net_drawn.F sc_law_net_drawn (fun xs M Φ ⟨_, _, _, _, _, _, _, _, _, _, h, _⟩ => by rw [h]; rfl) fun cdv A outer s H E hr => ?_
  have nd := sc_law_net_drawn.nd
  refine ⟨_, (pss_cons (ps_setLc (i := 3) (own := [("_law_k", 4)]) rfl nd rfl rfl (sw_true rfl rfl rfl (by decide +kernel)) (pi_range1 (by rfl) T.z_range (pa_cons (pv 2) pa_nil)) (blkOk_by (by kernel_rfl)) (fun _ _ _ _ _ => (pg_name (i := 4) nd rfl (Or.inl rfl))) (fun _ _ _ _ _ => pts_nil) (fun _ _ _ _ _ => (pe_tup (pa_cons (pe_call (ok_law_next T) (hr.mono (by first | decide | omega)) rfl T.d_law_next.m T.d_law_next.F.kp T.d_law_next.b .nil pass0 (pa_cons (pv 0) (pa_cons (pe_op op_add (pv 1) pe_int) pa_nil))) (pa_cons (pe_call (ok_law_next T) (hr.mono (by first | decide | omega)) rfl T.d_law_next.m T.d_law_next.F.kp T.d_law_next.b .nil pass0 (pa_cons (pv 0) (pa_cons (pe_op op_add (pv 1) pe_int) pa_nil))) pa_nil)))))
      (pss_one (ps_ret (pe_call (ok_law_net T) (hr.mono (by first | decide | omega)) rfl T.d_law_net.m T.d_law_net.F.kp T.d_law_net.b .nil pass0 (pa_cons (pe_call (ok_law_ends T) (hr.mono (by first | decide | omega)) rfl T.d_law_ends.m T.d_law_ends.F.kp T.d_law_ends.b .nil pass0 (pa_cons (pv 0) (pa_cons (pv 1) pa_nil))) (pa_cons (pv 3) pa_nil)))))), ?_⟩
  rintro xs M Φ ⟨p, N, many, wide, a1, a2, a3, a4, hN, src, rfl, k⟩
  refine xs_seq <| xs_set ?_
  refine xp_draw (α := Nat) (fun i => .int (i : Nat)) (fun _ d => ∃ s : Spot, d = spD s ∧ s.1 ≤ many ∧ s.2 ≤ many) p 2 <| xi_rng1 <| xa_cons <| xp_var rfl <| xa_nil ⟨wide, rfl, by omega, by omega, List.range wide, N, by rw [List.length_range]; omega, fun _ _ => trivial, ev_rng rfl, by rw [List.length_range]; omega, src, ?_, fun es M1 hes sub1 s1 => .inl ?_⟩
  · intro i i' M' hi sub s'
    obtain ⟨hi', rfl⟩ := range_at hi
    refine xg_name (by decide) ⟨rfl, xp_tup <| xa_cons <| xp_call <| xa_cons <| xp_var rfl <| xa_cons <| xp_op <| xp_var rfl <| xp_int <| xo_i0 <| xa_nil ⟨p, N + 2 * i, many + 1, by omega, by omega, by omega, s', rfl, fun r M4 hr s4 sub4 => ?_⟩⟩
    refine xa_cons <| xp_call <| xa_cons <| xp_var rfl <| xa_cons <| xp_op <| xp_var rfl <| xp_int <| xo_i0 <| xa_nil ⟨p, N + 2 * i + 1, many + 1, by omega, by omega, by omega, s4, rfl, fun r2 M5 hr2 s5 sub5 => ?_⟩
    exact xa_nil ⟨[_, _], rfl, (show 2 ≤ 100000 by decide), (sub.trans sub4).trans sub5, s5.mono (by omega), _, rfl, (r, r2), rfl, by dsimp only; omega, by dsimp only; omega⟩
  · rw [List.length_range] at s1
    obtain ⟨arcs, rfl, hal, hai⟩ : ∃ arcs : List Spot, es = arcs.map spD ∧ arcs.length = wide ∧ ∀ e ∈ arcs, e.1 ≤ many ∧ e.2 ≤ many := by
      have go : ∀ {l : List Nat} {es : List PyData}, Paired (fun _ d => ∃ s : Spot, d = spD s ∧ s.1 ≤ many ∧ s.2 ≤ many) l es → ∃ arcs : List Spot, es = arcs.map spD ∧ arcs.length = l.length ∧ ∀ e ∈ arcs, e.1 ≤ many ∧ e.2 ≤ many := by
        intro l es h
        induction h with
        | nil => exact ⟨[], rfl, rfl, fun e he => by cases he⟩
        | cons h t ih =>
          obtain ⟨s, rfl, h1, h2⟩ := h
          obtain ⟨arcs, rfl, h3, h4⟩ := ih
          exact ⟨s :: arcs, rfl, by rw [List.length_cons, List.length_cons, h3], fun e he => by
            rcases List.mem_cons.mp he with rfl | he
            · exact ⟨h1, h2⟩
            · exact h4 e he⟩
      obtain ⟨arcs, h1, h2, h3⟩ := go hes
      exact ⟨arcs, h1, by rw [h2, List.length_range], h3⟩
    refine xs_ret <| xp_call <| xa_cons <| xp_frz <| xp_call <| xa_cons <| xp_var rfl <| xa_cons <| xp_var rfl <| xa_nil ⟨p, N + 2 * wide, many, a1, a2, by omega, s1, rfl, fun eds hel hei L f M2 hf hMf s2 sub2 => ⟨f, eds.map spD, rfl, hMf, xa_cons <| xp_var rfl <| xa_nil ⟨many, wide, eds, arcs, a1, a2, a3, a4, hel, hal, hei, hai, L, rfl, fun es hes => ?_⟩⟩⟩
    have fne := s1.ne hf
    exact k es _ hes ((s2.del fne).mono (by omega)) ((sub1.trans sub2).del (src.fresh s1 sub1 hf))
def p_fano : SpP := fun xs M Φ => ∃ (p : Addr) (N : Nat), N < 900000 ∧ Src M p N ∧ xs = [.adr p] ∧ ∀ m n, tabP ok01 m n p N 60 M Φ
theorem ok_law_fano (T : Txt w K mg) : FnOk P w K mg base CX0 3 T.d_law_fano.f T.d_law_fano.fd ["_law_source"] (spE K p_fano) := by
  refine fn_ok T.d_law_fano.F sc_law_fano (fun xs M Φ ⟨_, _, _, _, h, _⟩ => by rw [h]; rfl) fun cdv A outer s H E hr => ?_
  have nd := sc_law_fano.nd
  refine ⟨_, (pss_cons (ps_set (i := 1) nd rfl (Or.inr rfl) (pe_lst (pa_cons (pe_lst (pa_cons pe_int (pa_cons pe_int (pa_cons pe_int (pa_cons pe_int pa_nil))))) (pa_cons (pe_lst (pa_cons pe_int (pa_cons pe_int (pa_cons pe_int (pa_cons pe_int pa_nil))))) (pa_cons (pe_lst (pa_cons pe_int (pa_cons pe_int (pa_cons pe_int (pa_cons pe_int pa_nil))))) pa_nil)))))
      (pss_cons (ps_if (pt_cmpR (k_eq (K := K) rfl (u64 hr)) (pe_call (ok_law_next T) (hr.mono (by first | decide | omega)) rfl T.d_law_next.m T.d_law_next.F.kp T.d_law_next.b .nil pass0 (pa_cons (pv 0) (pa_cons pe_int pa_nil))) pe_int (nomark _)) (pss_one (ps_set (i := 1) nd rfl (Or.inr rfl) (pe_lc (own := [("_law_k", 2)]) rfl nd (pi_range1 (by rfl) T.z_range (pa_cons pe_int pa_nil)) (blkOk_by (by kernel_rfl)) (fun _ _ _ _ _ => (pg_name (i := 2) nd rfl (Or.inr rfl))) (fun _ _ _ _ _ => pts_nil) (fun _ _ _ _ _ => (pe_lc (own := [("_law_row", 3)]) rfl nd (kiL (K := K) rfl (pi_list (pv 1))) (blkOk_by (by kernel_rfl)) (fun _ _ _ _ _ => (pg_name (i := 3) nd rfl (Or.inl rfl))) (fun _ _ _ _ _ => pts_nil) (fun _ _ _ _ _ => (pe_ix (k_ix (K := K) rfl) (pv 3) (pv 2) (fun _ _ => rfl)))))))) pss_nil)
      (pss_cons (ps_set (i := 1) nd rfl (Or.inr rfl) (pe_call (ok_law_mixed T) (hr.mono (by first | decide | omega)) rfl T.d_law_mixed.m T.d_law_mixed.F.kp T.d_law_mixed.b .nil pass0 (pa_cons (pv 0) (pa_cons (pv 1) pa_nil))))
      (pss_cons (ps_for PassesOwn.never rfl (pi_range1 (by rfl) T.z_range (pa_cons (pe_call (ok_law_next T) (hr.mono (by first | decide | omega)) rfl T.d_law_next.m T.d_law_next.F.kp T.d_law_next.b .nil pass0 (pa_cons (pv 0) (pa_cons pe_int pa_nil))) pa_nil)) (pg_name (i := 2) nd rfl (Or.inl rfl)) (pss_one (ps_if (PW.pt (pw_and (pt_cmpR op_lt (pe_callB (k_len (K := K) rfl) (by rfl) T.z_len (by decide +kernel) (pa_cons (pv 1) pa_nil)) pe_int (nomark _)) (pw_and1 (pt_cmpR (k_eq (K := K) rfl (u64 hr)) (pe_call (ok_law_next T) (hr.mono (by first | decide | omega)) rfl T.d_law_next.m T.d_law_next.F.kp T.d_law_next.b .nil pass0 (pa_cons (pv 0) (pa_cons pe_int pa_nil))) pe_int (nomark _))))) (pss_one (ps_expr (kbm (K := K) rfl (pe_bm PySem.F.plainAttrs_list PySem.F.slot_list_append PySem.F.type_list_append mt_append (pv 1) (pa_cons (pe_lc (own := [("_law_entry", 6)]) rfl nd (kiL (K := K) rfl (pi_list (pe_ix (k_ix (K := K) rfl) (pv 1) pe_int (fun _ _ => rfl)))) (blkOk_by (by kernel_rfl)) (fun _ _ _ _ _ => (pg_name (i := 6) nd rfl (Or.inl rfl))) (fun _ _ _ _ _ => pts_nil) (fun _ _ _ _ _ => (pe_call (ok_law_next T) (hr.mono (by first | decide | omega)) rfl T.d_law_next.m T.d_law_next.F.kp T.d_law_next.b .nil pass0 (pa_cons (pv 0) (pa_cons pe_int pa_nil))))) pa_nil))))) (pss_one (ps_if (pt_cmpR op_lt (pe_callB (k_len (K := K) rfl) (by rfl) T.z_len (by decide +kernel) (pa_cons (pe_ix (k_ix (K := K) rfl) (pv 1) pe_int (fun _ _ => rfl)) pa_nil)) pe_int (nomark _)) (pss_one (ps_set (i := 1) nd rfl (Or.inr rfl) (pe_lc (own := [("_law_row", 3)]) rfl nd (kiL (K := K) rfl (pi_list (pv 1))) (blkOk_by (by kernel_rfl)) (fun _ _ _ _ _ => (pg_name (i := 3) nd rfl (Or.inl rfl))) (fun _ _ _ _ _ => pts_nil) (fun _ _ _ _ _ => (pe_op op_cat (pv 3) (pe_lst (pa_cons (pe_call (ok_law_next T) (hr.mono (by first | decide | omega)) rfl T.d_law_next.m T.d_law_next.F.kp T.d_law_next.b .nil pass0 (pa_cons (pv 0) (pa_cons pe_int pa_nil))) pa_nil))))))) pss_nil)))))
      (pss_cons (ps_for PassesOwn.never rfl (pi_range1 (by rfl) T.z_range (pa_cons (pe_call (ok_law_next T) (hr.mono (by first | decide | omega)) rfl T.d_law_next.m T.d_law_next.F.kp T.d_law_next.b .nil pass0 (pa_cons (pv 0) (pa_cons pe_int pa_nil))) pa_nil)) (pg_name (i := 2) nd rfl (Or.inl rfl)) (pss_cons (ps_set (i := 3) nd rfl (Or.inl rfl) (pe_call (ok_law_next T) (hr.mono (by first | decide | omega)) rfl T.d_law_next.m T.d_law_next.F.kp T.d_law_next.b .nil pass0 (pa_cons (pv 0) (pa_cons (pe_callB (k_len (K := K) rfl) (by rfl) T.z_len (by decide +kernel) (pa_cons (pv 1) pa_nil)) pa_nil))))
      (pss_cons (ps_set (i := 4) nd rfl (Or.inl rfl) (pe_call (ok_law_next T) (hr.mono (by first | decide | omega)) rfl T.d_law_next.m T.d_law_next.F.kp T.d_law_next.b .nil pass0 (pa_cons (pv 0) (pa_cons (pe_callB (k_len (K := K) rfl) (by rfl) T.z_len (by decide +kernel) (pa_cons (pe_ix (k_ix (K := K) rfl) (pv 1) pe_int (fun _ _ => rfl)) pa_nil)) pa_nil))))
      (pss_one (ps_if (pt_cmpR (k_eq (K := K) rfl (u64 hr)) (pe_ix (k_ix (K := K) rfl) (pe_ix (k_ix (K := K) rfl) (pv 1) (pv 3) (fun _ _ => rfl)) (pv 4) (fun _ _ => rfl)) pe_int (nomark _)) (pss_one (ps_set (i := 1) nd rfl (Or.inr rfl) (pe_call (ok_law_twice T) (hr.mono (by first | decide | omega)) rfl T.d_law_twice.m T.d_law_twice.F.kp T.d_law_twice.b .nil pass0 (pa_cons (pv 1) (pa_cons (pv 3) (pa_cons (pv 4) pa_nil)))))) pss_nil)))))
      (pss_cons (ps_set (i := 5) nd rfl (Or.inr rfl) (pe_call (ok_law_mixed T) (hr.mono (by first | decide | omega)) rfl T.d_law_mixed.m T.d_law_mixed.F.kp T.d_law_mixed.b .nil pass0 (pa_cons (pv 0) (pa_cons (pe_listRg rfl rfl T.z_list (prg_1 rfl T.z_range (pe_callB (k_len (K := K) rfl) (by rfl) T.z_len (by decide +kernel) (pa_cons (pe_ix (k_ix (K := K) rfl) (pv 1) pe_int (fun _ _ => rfl)) pa_nil)))) pa_nil))))
      (pss_one (ps_ret (pe_lc (own := [("_law_row", 3)]) rfl nd (kiL (K := K) rfl (pi_list (pe_call (ok_law_mixed T) (hr.mono (by first | decide | omega)) rfl T.d_law_mixed.m T.d_law_mixed.F.kp T.d_law_mixed.b .nil pass0 (pa_cons (pv 0) (pa_cons (pv 1) pa_nil))))) (blkOk_by (by kernel_rfl)) (fun _ _ _ _ _ => (pg_name (i := 3) nd rfl (Or.inr rfl))) (fun _ _ _ _ _ => pts_nil) (fun _ _ _ _ _ => (pe_lc (own := [("_law_k", 2)]) rfl nd (kiL (K := K) rfl (pi_list (pv 5))) (blkOk_by (by kernel_rfl)) (fun _ _ _ _ _ => (pg_name (i := 2) nd rfl (Or.inl rfl))) (fun _ _ _ _ _ => pts_nil) (fun _ _ _ _ _ => (pe_ix (k_ix (K := K) rfl) (pv 3) (pv 2) (fun _ _ => rfl)))))))))))))), ?_⟩
  rintro xs M Φ ⟨p, N, hN, src, rfl, k⟩
  have row4 : ∀ {a b c d : Int} {ds : DS} {M : MH} {Φ : Ds → MH → Prop}, Φ (.dat (rowD [a, b, c, d])) M → Xp K (tLst (tCons (tC (.int a)) (tCons (tC (.int b)) (tCons (tC (.int c)) (tCons (tC (.int d)) tNil))))) ds M Φ := fun k => xp_lst <| xa_cons <| xp_int <| xa_cons <| xp_int <| xa_cons <| xp_int <| xa_cons <| xp_int <| xa_nil ⟨[_, _, _, _], rfl, (show 4 ≤ 100000 by decide), k⟩
  refine xs_seq <| xs_set <| xp_lst <| xa_cons <| row4 <| xa_cons <| row4 <| xa_cons <| row4 <| xa_nil ⟨[_, _, _], rfl, (show 3 ≤ 100000 by decide), ?_⟩
  have t0 : TabOk ok01 [rowD [1, 1, 0, 1], rowD [1, 0, 1, 1], rowD [0, 1, 1, 1]] 3 4 := by
    refine TabOk.of (S := [[1, 1, 0, 1], [1, 0, 1, 1], [0, 1, 1, 1]]) ⟨by decide, by decide, by decide, by decide, rfl, by decide⟩ ?_
    unfold ok01
    decide
  generalize [rowD [1, 1, 0, 1], rowD [1, 0, 1, 1], rowD [0, 1, 1, 1]] = es0 at t0
  refine xs_seq (xs_mono (Δ' := { nx := fun ds' M' => ∃ es2 m2 n2 a b c d e, ds' = [some (.adr p), some (.dat (.list es2)), a, b, c, d, e] ∧ TabOk ok01 es2 m2 n2 ∧ Src M' p (N + 1) ∧ SubP p M M', rt := fun _ _ => False }) ?_ (fun ds' M' hh => ?_) (fun _ _ z => z.elim) (fun _ _ z => z.elim) (fun _ _ z => z.elim))
  · refine xs_if <| xt_tst <| xp_op <| xp_call <| xa_cons <| xp_var rfl <| xa_cons <| xp_int <| xa_nil ⟨p, N, 2, by decide, by decide, by omega, src, rfl, fun r M3 hr s3 sub3 => xp_int <| xo_eqD (.dat _) (.dat _) (shD.int _ _) (shD.int _ _) ⟨_, rfl, fun _ => ?_, fun _ => ?_⟩⟩
    · refine xs_set ?_
      exact xp_turned (ok := ok01) t0 (xd_len0 (n := 4) (by decide) <| xa_cons <| xp_int <| xa_nil ⟨rfl, rfl⟩) (by decide) rfl (fun y => rfl) (by decide) (fun y z => ⟨rfl, rfl⟩) fun es2 hT2 => ⟨es2, 4, 3, _, _, _, _, _, rfl, hT2, s3, sub3⟩
    · exact xs_nil ⟨es0, 3, 4, _, _, _, _, _, rfl, t0, s3, sub3⟩
  · obtain ⟨es, m, n, a, b, c, d, e, rfl, hT, s1, sub1⟩ := hh
    have m5 := hT.m5
    have hlen := hT.len
    refine xs_seq <| xs_set <| xp_call <| xa_cons <| xp_var rfl <| xa_cons <| xp_var rfl <| xa_nil ⟨p, N + 1, es, by omega, hT.sh, by omega, s1, rfl, fun es1 t M2 hp ht hMt s2 sub2 => ?_⟩
    have hT1 := hT.perm hp
    have ht0 := src.fresh s1 sub1 ht
    rw [hlen] at s2
    refine xs_seq <| xs_for <| xi_rng1 <| xa_cons <| xp_call <| xa_cons <| xp_var rfl <| xa_cons <| xp_int <| xa_nil ⟨p, N + 1 + m, 3, by decide, by decide, by omega, s2, rfl, fun n3 M3 hn3 s3 sub3 => xa_nil ⟨n3, rfl, by omega, by omega, [2], fun i ds' M' => ∃ (t : Addr) (es : List PyData) (m n : Nat) (a b c d e : Option Ds), ds' = [some (.adr p), some (.adr t), a, b, c, d, e] ∧ M' t = some (.lst (dats es)) ∧ M t = none ∧ TabOk ok01 es m n ∧ Src M' p (N + 7 + 6 * i) ∧ SubP p M M', ?_, fun _ _ _ _ _ => trivial, ?_, ?_⟩⟩
    · exact ⟨t, es1, m, n, _, _, _, _, _, rfl, sub3 t _ (src.ne ht0) hMt, ht0, hT1, s3.mono (by omega), (sub1.trans sub2).trans sub3⟩
    · rintro i x ds' M4 M5 hi ⟨t, es, m, n, a, b, c, d, e, rfl, hMt, ht0, hT, s4, sub4⟩ ⟨rfl, rfl⟩
      have tne := src.ne ht0
      have m5 := hT.m5
      have n5 := hT.n5
      have m0 := hT.m0
      have hlen := hT.len
      have hi3 : i < 3 := by omega
      obtain ⟨r0, e0, hr0, _⟩ := hT.at (i := 0) (by omega)
      refine xg_name (by decide) ?_
      have wider : ∀ (M6 : MH), M6 t = some (.lst (dats es)) → Src M6 p (N + 7 + 6 * i + 1) → SubP p M M6 → Xs K (tIfS (tTest (tOp (rI0 fun i j => .bl (decide (i < j))) (tCB (fun xs H Q => ∃ p ys, xs = [.ref p] ∧ (SqL K H p ys ∨ SqT K H p ys) ∧ Q (.int ys.length) H) (tCons (tOp (rIx K) (tVar 1) (tC (.int 0))) tNil)) (tC (.int 5)))) (tAsg (tLc (iList K (tVar 1)) (gName 3) tYes (tOp rCat (tVar 3) (tLst (tCons (tCall (spE K p_next) [] (fun _ _ _ => False) (tCons (tVar 0) (tCons (tC (.int 2)) tNil))) tNil))) [3]) (gName 1)) tNext) ([some (.adr p), some (.adr t), some (.dat (.int (0 + (i : Int)))), b, c, d, e]) M6 { nx := fun ds' M' => ∃ (t : Addr) (es : List PyData) (m n : Nat) (a b c d e : Option Ds), ds' = [some (.adr p), some (.adr t), a, b, c, d, e] ∧ M' t = some (.lst (dats es)) ∧ M t = none ∧ TabOk ok01 es m n ∧ Src M' p (N + 7 + 6 * (i + 1)) ∧ SubP p M M', rt := fun _ _ => False } := by
        intro M6 hM6 s6 sub6
        refine xs_if <| xt_tst <| xp_op <| xp_cb <| xa_cons <| xp_op <| xp_var rfl <| xp_int <| xo_ixM (x := .dat (rowD r0)) hM6 (at_nat (j := 0) (map_at e0)) <| xa_nil <| xc_len (.dat _) <| xp_int <| xo_b0 ⟨_, rfl, fun hlt => ?_, fun _ => ?_⟩
        · have hlt := of_decide_eq_true hlt
          rw [List.length_map, hr0] at hlt
          refine xs_set ?_
          refine xp_draw (α := PyData) (fun d => d) (fun _ d => RowOk ok01 (n + 1) d) p 1 <| xi_listM <| xp_var rfl ⟨t, _, rfl, hM6, es, N + 7 + 6 * i + 1, by rw [List.length_map], fun M' hs => hs t _ tne hM6, fun j x M2 M3 _ y => ?_, by omega, s6, ?_, fun rs M7 hrs sub7 s7 => .inr fun q hq => ?_⟩
          · obtain ⟨h1, dd, hd, ex⟩ := yi_dat j x M2 M3 y
            exact ⟨h1, dd, hd, ex⟩
          · intro j dd M' hj sub s'
            obtain ⟨r, rfl, hr1, hr2⟩ := hT.row dd (List.mem_of_getElem? hj)
            have hjl := (List.getElem?_eq_some_iff.mp hj).1
            refine xg_name (by decide) ⟨rfl, xp_op <| xp_var rfl <| xp_lst <| xa_cons <| xp_call <| xa_cons <| xp_var rfl <| xa_cons <| xp_int <| xa_nil ⟨p, N + 7 + 6 * i + 1 + 1 * j, 2, by decide, by decide, by omega, s', rfl, fun z M8 hz s8 sub8 => xa_nil ⟨[_], rfl, len1, xo_cat (by rw [List.length_map, hr1]; show n + 1 ≤ 100000; omega) ⟨sub.trans sub8, s8.mono (by omega), _, rfl, r ++ [((z : Nat) : Int)], (rowD_snoc _ _).symm, by rw [List.length_append, hr1]; rfl, fun x hx => ?_⟩⟩⟩⟩
            rcases List.mem_append.mp hx with hx | hx
            · exact hr2 x hx
            · obtain rfl := List.mem_singleton.mp hx
              exact okr hz
          · have hq0 := src.fresh s7 (sub6.trans sub7) hq
            refine ⟨q, rs, m, n + 1, _, _, _, _, _, rfl, MH.up_same, hq0, ⟨m0, m5, by omega, by omega, by rw [← hrs.length]; exact hlen, fun d hd => ?_⟩, (s7.up (src.ne hq0)).mono (by omega), (sub6.trans sub7).new hq0⟩
            obtain ⟨_, _, h⟩ := Paired.mem2 hrs d hd
            exact h
        · exact xs_nil ⟨t, es, m, n, _, _, _, _, _, rfl, hM6, ht0, hT, s6.mono (by omega), sub6⟩
      have el : (es.map fun d => d).length = m := by rw [List.length_map]; exact hlen
      have wide2 : ∀ {Δ : XE} (M6 : MH), M6 t = some (.lst (dats es)) → Src M6 p (N + 7 + 6 * i + 1) → SubP p M M6 → (∀ ds2 M2, (∃ (t : Addr) (es : List PyData) (m n : Nat) (a b c d e : Option Ds), ds2 = [some (.adr p), some (.adr t), a, b, c, d, e] ∧ M2 t = some (.lst (dats es)) ∧ M t = none ∧ TabOk ok01 es m n ∧ Src M2 p (N + 7 + 6 * (i + 1)) ∧ SubP p M M2) → Δ.nx ds2 M2) → Xs K _ _ M6 Δ := fun {Δ} M6 h1 h2 h3 h4 => xs_mono (wider M6 h1 h2 h3) h4 (fun _ _ z => z.elim) (fun _ _ z => z.elim) (fun _ _ z => z.elim)
      refine xs_if <| xt_and <| xt_tst <| xp_op <| xp_cb <| xa_cons <| xp_var rfl <| xa_nil <| xc_lenM hMt <| xp_int <| xo_b0 ⟨_, rfl, fun hlt => ?_, fun _ => no rfl ?_⟩
      · have hlt := of_decide_eq_true hlt
        rw [List.length_map, hlen] at hlt
        refine xt_tst <| xp_op <| xp_call <| xa_cons <| xp_var rfl <| xa_cons <| xp_int <| xa_nil ⟨p, N + 7 + 6 * i, 2, by decide, by decide, by omega, s4, rfl, fun z M6 hz s6 sub6 => xp_int <| xo_eqD (.dat _) (.dat _) (shD.int _ _) (shD.int _ _) ⟨_, rfl, fun _ => ?_, fun _ => ?_⟩⟩
        · have hM6 := sub6 t _ tne hMt
          refine xs_app2 rfl hM6 (by omega) ?_
          refine xp_draw (α := Int) PyData.int (fun _ d => Ent ok01 d) p 1 <| xi_list <| xp_op <| xp_var rfl <| xp_int <| xo_ixM (x := .dat (rowD r0)) hM6 (at_nat (j := 0) (map_at e0)) ⟨_, rfl, r0, N + 7 + 6 * i + 1, by rw [List.length_map], fun _ _ => trivial, ev_list rfl, by omega, s6, ?_, fun rs M7 hrs sub7 s7 => .inl ?_⟩
          · intro j v M' hj sub s'
            have hjl := (List.getElem?_eq_some_iff.mp hj).1
            exact xg_name (by decide) ⟨rfl, xp_call <| xa_cons <| xp_var rfl <| xa_cons <| xp_int <| xa_nil ⟨p, N + 7 + 6 * i + 1 + 1 * j, 2, by decide, by decide, by omega, s', rfl, fun z M8 hz s8 sub8 => ⟨sub.trans sub8, s8.mono (by omega), _, rfl, _, rfl, okr hz⟩⟩⟩
          · obtain ⟨rr, rfl, h1, h2⟩ := row_of (fun _ _ h => h) hrs
            have hM7 := sub7 t _ tne hM6
            refine ⟨hM7.trans hM6.symm, _, rfl, t, es ++ [rowD rr], m + 1, n, _, _, _, _, _, rfl, MH.up_same, ht0, ⟨by omega, by omega, hT.n0, n5, by rw [List.length_append, hlen]; rfl, fun d hd => ?_⟩, (s7.up tne).mono (by omega), ((sub4.trans sub6).trans sub7).new ht0⟩
            rcases List.mem_append.mp hd with hd | hd
            · exact hT.row d hd
            · obtain rfl := List.mem_singleton.mp hd
              exact ⟨rr, rfl, h1.trans hr0, h2⟩
        · exact wide2 M6 (sub6 t _ tne hMt) s6 (sub4.trans sub6) fun _ _ h => h
      · exact wide2 M5 hMt (s4.mono (by omega)) sub4 fun _ _ h => h
    · rintro ds' M4 ⟨t, es, m, n, a, b, c, d, e, rfl, hMt, ht0, hT, s4, sub4⟩
      have tne := src.ne ht0
      refine xs_frzV (i := 1) rfl hMt ?_
      have s5 := (s4.del tne).mono (N' := N + 19) (by omega)
      have sub5 := sub4.del ht0
      generalize M4.del t = M5 at s5 sub5
      obtain ⟨S, rfl, hS, h01⟩ := hT.tab
      refine xs_seq <| xs_for <| xi_rng1 <| xa_cons <| xp_call <| xa_cons <| xp_var rfl <| xa_cons <| xp_int <| xa_nil ⟨p, N + 19, 4, by decide, by decide, by omega, s5, rfl, fun n4 M6 hn4 s6 sub6 => xa_nil ⟨n4, rfl, by omega, by omega, [2], fun i ds' M' => ∃ (S : Tab) (a b c d e : Option Ds), ds' = [some (.adr p), some (.dat (tabD S)), a, b, c, d, e] ∧ Rect S m n ∧ Ones S ∧ Src M' p (N + 20 + 2 * i) ∧ SubP p M M', ?_, fun _ _ _ _ _ => trivial, ?_, ?_⟩⟩
      · exact ⟨S, _, _, _, _, _, rfl, hS, h01, s6, sub5.trans sub6⟩
      · rintro i x ds' M7 M8 hi ⟨S, a, b, c, d, e, rfl, hS, h01, s7, sub7⟩ ⟨rfl, rfl⟩
        have m0 := hS.m0
        have m5 := hS.m5
        have n0 := hS.n0
        have n5 := hS.n5
        refine xg_name (by decide) <| xs_seq <| xs_set <| xp_call <| xa_cons <| xp_var rfl <| xa_cons <| xp_tall hS rfl <| xa_nil ⟨p, N + 20 + 2 * i, m, by omega, by omega, by omega, s7, rfl, fun rr M9 hrr s9 sub9 => ?_⟩
        refine xs_seq <| xs_set <| xp_call <| xa_cons <| xp_var rfl <| xa_cons <| xp_wide hS rfl <| xa_nil ⟨p, N + 20 + 2 * i + 1, n, by omega, by omega, by omega, s9, rfl, fun cc Ma hcc sa suba => ?_⟩
        refine xs_if <| xt_tst <| xp_op <| xp_cell hS hrr hcc <| xp_var rfl ⟨rfl, xp_var rfl ⟨rfl, xp_var rfl ⟨rfl, xp_int <| xo_eqD (.dat _) (.dat _) (shD.int _ _) (shD.int _ _) ⟨_, rfl, fun _ => ?_, fun _ => ?_⟩⟩⟩⟩
        · exact xs_set <| xp_call <| xa_cons <| xp_var rfl <| xa_cons <| xp_var rfl <| xa_cons <| xp_var rfl <| xa_nil ⟨S, m, n, rr, cc, hS, h01, hrr, hcc, rfl, fun S' hS' h' => ⟨S', _, _, _, _, _, rfl, hS', h', sa.mono (by omega), (sub7.trans sub9).trans suba⟩⟩
        · exact xs_nil ⟨S, _, _, _, _, _, rfl, hS, h01, sa.mono (by omega), (sub7.trans sub9).trans suba⟩
      · rintro ds' M7 ⟨S, a, b, c, d, e, rfl, hS, h01, s7, sub7⟩
        have m0 := hS.m0
        have m5 := hS.m5
        have n0 := hS.n0
        have n5 := hS.n5
        have hT2 := TabOk.of (ok := ok01) hS h01
        refine xs_seq <| xs_set <| xp_frz <| xp_call <| xa_cons <| xp_var rfl <| xa_cons <| xp_lstRg1 <| xp_wide hS rfl ⟨n, rfl, by omega, xa_nil ⟨p, N + 28, nums ((List.range n).map fun i => ((i : Nat) : Int)), by simp; omega, sh_ints, by simp; omega, s7.mono (by omega), rfl, fun os f M8 hp8 hf hMf s8 sub8 => ⟨f, os, rfl, hMf, ?_⟩⟩⟩
        obtain ⟨hol, hoat⟩ := ints_perm hp8
        have fne := (s7.mono (N' := N + 28) (by omega)).ne hf
        have s9 := (s8.del fne).mono (N' := N + 33) (by simp; omega)
        have sub9 := (sub7.trans sub8).del ((src.fresh s7 sub7 hf))
        generalize M8.del f = M9 at s9 sub9
        refine xs_ret ?_
        refine xp_draw (α := PyData) (fun d => d) (fun _ d => RowOk ok01 n d) p 0 <| xi_list <| xp_frz <| xp_call <| xa_cons <| xp_var rfl <| xa_cons <| xp_var rfl <| xa_nil ⟨p, N + 33, S.map rowD, by rw [List.length_map, hS.len]; omega, hT2.sh, by rw [List.length_map, hS.len]; omega, s9, rfl, fun es f Ma hpa hf hMf sa suba => ⟨f, es, rfl, hMf, es, rfl, es, N + 38, rfl, fun _ _ => trivial, ev_list (List.map_id' _).symm, ?_, ?_, ?_, fun rs Mb hrs subb sb => .inl ?_⟩⟩
        · rw [hpa.length_eq, List.length_map, hS.len]; omega
        · exact (sa.del (s9.ne hf)).mono (by rw [List.length_map, hS.len]; omega)
        · intro i dd M' hi sub s'
          obtain ⟨r, rfl, hr1, hr2⟩ := (hT2.perm hpa).row dd (List.mem_of_getElem? hi)
          refine xg_name (by decide) ⟨rfl, ?_⟩
          refine xp_mapR (Gd0 := fun _ => True) (l := os) (enc := fun d => d) (fun _ d => Ent ok01 d) (by rw [List.map_id']; exact xd_var rfl) trivial (by omega) ?_ fun qs hqs => ⟨sub, s', _, rfl, ?_⟩
          · intro j oj hj
            have hjl := (List.getElem?_eq_some_iff.mp hj).1
            obtain ⟨v, hv, ev⟩ := hoat j (by omega)
            rw [hj] at ev
            cases ev
            obtain ⟨u, hu, hum⟩ := cell_row hr1 hv
            exact xg_name (by decide) ⟨rfl, xp_op <| xp_var rfl <| xp_var rfl <| xo_ixL (at_nat hu) ⟨rfl, _, rfl, u, rfl, hr2 u hum⟩⟩
          · obtain ⟨rr, rfl, h1, h2⟩ := row_of (fun _ _ h => h) hqs
            exact ⟨rr, rfl, h1.trans hol, h2⟩
        · refine k m n rs Mb ⟨m0, m5, n0, n5, by rw [← hrs.length, hpa.length_eq, List.length_map, hS.len], fun d hd => ?_⟩ (sb.mono (by omega)) ((sub9.trans (suba.del ?_)).trans subb)
          · obtain ⟨_, _, h⟩ := Paired.mem2 hrs d hd
            exact h
          · exact hf
end
end K62
end
section
set_option Elab.async false
set_option linter.all false
set_option maxRecDepth 100000
set_option maxHeartbeats 4000000
set_option autoImplicit false
namespace K62
open PySem L2
theorem abs_ok {v : Int} (h : okPm v) : ok01 (if v < 0 then -v else v) := by
  rcases h with rfl | rfl | rfl
  · exact .inl rfl
  · exact .inr rfl
  · exact .inr rfl
theorem TabOk.imp {ok ok' : Int → Prop} {es : List PyData} {m n : Nat} (h : TabOk ok es m n) (i : ∀ x, ok x → ok' x) : TabOk ok' es m n :=
  ⟨h.m0, h.m5, h.n0, h.n5, h.len, fun d hd => let ⟨r, e, h1, h2⟩ := h.row d hd; ⟨r, e, h1, fun x hx => i x (h2 x hx)⟩⟩
section
variable {P : Program} {w : World} {K : PySem.W.Frag} {mg : Str → Option Value} {base : Heap}
/-- [[abs(entry) for entry in row] for row in es] -/
theorem xp_absT {ds : DS} {M : MH} {Φ : Ds → MH → Prop} {te : TE} {ir ie : Nat} {vo vi : List Nat} {p : Addr} {N : Nat} (hr : ir ∈ vo) (he : ie ∈ vi)
    (h1 : ∀ y, ((wipeD ds vo).set ir (some y))[ir]? = some (some y)) (h2 : ∀ y z, ((wipeD ((wipeD ds vo).set ir (some y)) vi).set ie (some z))[ie]? = some (some z))
    (h : Xp K te ds M fun x M1 => ∃ es m n, x = .dat (.list es) ∧ TabOk okPm es m n ∧ Src M1 p N ∧ ∀ es' M2, TabOk ok01 es' m n → Src M2 p N → SubP p M1 M2 → Φ (.dat (.list es')) M2) :
    Xp K (tLc (iList K te) (gName ir) tYes (tLc (iList K (tVar ir)) (gName ie) tYes (tCB (fun xs H Q => ∃ i, xs = [.int i] ∧ Q (.int (if i < 0 then -i else i)) H) (tCons (tVar ie) tNil)) vi) vo) ds M Φ := by
  refine xp_draw (α := PyData) (fun d => d) (fun d d' => ∀ n, RowOk okPm n d → RowOk ok01 n d') p 0 <| xi_list <| xp_mono h fun x M1 ⟨es, m, n, ex, hT, src, k⟩ => ⟨es, ex, es, N, rfl, fun _ _ => trivial, ev_list (List.map_id' _).symm, by rw [hT.len]; have := hT.m5; omega, src, fun i d M' hd sub s' => ?_, fun rs M2 hrs sub2 s2 => .inl (k rs M2 ⟨hT.m0, hT.m5, hT.n0, hT.n5, by rw [← hrs.length]; exact hT.len, fun d hd => ?_⟩ (by simpa using s2) sub2)⟩
  · obtain ⟨r, rfl, hr1, hr2⟩ := hT.row d (List.mem_of_getElem? hd)
    have n5 := hT.n5
    refine xg_name hr ⟨rfl, ?_⟩
    refine xp_mapR (Gd0 := fun _ => True) (l := r) (enc := PyData.int) (fun _ d => Ent ok01 d) (xd_var (h1 _)) trivial (by omega) ?_ fun qs hqs => ⟨sub, by simpa using s', _, rfl, fun n' ⟨r', e', h3, _⟩ => ?_⟩
    · intro j v hv
      have hok := hr2 v (List.mem_of_getElem? hv)
      exact xg_name he ⟨rfl, xp_cb <| xa_cons <| xp_var (h2 _ _) <| xa_nil <| xc_abs ⟨rfl, _, rfl, _, rfl, abs_ok hok⟩⟩
    · obtain ⟨rr, rfl, h5, h6⟩ := row_of (fun _ _ h => h) hqs
      have : nums r = nums r' := by injection e'
      have hll : r.length = r'.length := by
        have := congrArg List.length this
        rwa [List.length_map, List.length_map] at this
      exact ⟨rr, rfl, by rw [h5, hll, h3], h6⟩
  · obtain ⟨a, ha, h⟩ := Paired.mem2 hrs d hd
    exact h n (hT.row a ha)
def p_ones_drawn : SpP := fun xs M Φ => ∃ (p : Addr) (N : Nat), N < 700000 ∧ Src M p N ∧ xs = [.adr p] ∧ ∀ m n, tabP ok01 m n p N 100 M Φ
theorem ok_law_ones (T : Txt w K mg) : FnOk P w K mg base CX0 5 T.d_law_ones.f T.d_law_ones.fd ["_law_source"] (spE K p_ones_drawn) := by
  refine fn_ok T.d_law_ones.F sc_law_ones (fun xs M Φ ⟨_, _, _, _, h, _⟩ => by rw [h]; rfl) fun cdv A outer s H E hr => ?_
  have nd := sc_law_ones.nd
  refine ⟨_, (pss_cons (ps_set (i := 1) nd rfl (Or.inl rfl) (pe_call (ok_law_next T) (hr.mono (by first | decide | omega)) rfl T.d_law_next.m T.d_law_next.F.kp T.d_law_next.b .nil pass0 (pa_cons (pv 0) (pa_cons pe_int pa_nil))))
      (pss_cons (ps_set (i := 2) nd rfl (Or.inl rfl) (pe_op op_add pe_int (pe_call (ok_law_next T) (hr.mono (by first | decide | omega)) rfl T.d_law_next.m T.d_law_next.F.kp T.d_law_next.b .nil pass0 (pa_cons (pv 0) (pa_cons pe_int pa_nil)))))
      (pss_cons (ps_set (i := 3) nd rfl (Or.inr rfl) (pe_op op_add pe_int (pe_call (ok_law_next T) (hr.mono (by first | decide | omega)) rfl T.d_law_next.m T.d_law_next.F.kp T.d_law_next.b .nil pass0 (pa_cons (pv 0) (pa_cons pe_int pa_nil)))))
      (pss_cons (ps_if (pt_cmpR (k_eq (K := K) rfl (u64 hr)) (pv 1) pe_int (nomark _)) (pss_one (ps_ret (pe_call (ok_law_fano T) (hr.mono (by first | decide | omega)) rfl T.d_law_fano.m T.d_law_fano.F.kp T.d_law_fano.b .nil pass0 (pa_cons (pv 0) pa_nil)))) pss_nil)
      (pss_cons (ps_if (pt_cmpR (k_eq (K := K) rfl (u64 hr)) (pv 1) pe_int (nomark _)) (pss_one (ps_ret (pe_lc (own := [("_law_row", 5)]) rfl nd (kiL (K := K) rfl (pi_list (pe_call (ok_law_net_drawn T) (hr.mono (by first | decide | omega)) rfl T.d_law_net_drawn.m T.d_law_net_drawn.F.kp T.d_law_net_drawn.b .nil pass0 (pa_cons (pv 0) (pa_cons (pv 2) (pa_cons (pv 3) pa_nil)))))) (blkOk_by (by kernel_rfl)) (fun _ _ _ _ _ => (pg_name (i := 5) nd rfl (Or.inl rfl))) (fun _ _ _ _ _ => pts_nil) (fun _ _ _ _ _ => (pe_lc (own := [("_law_entry", 7)]) rfl nd (kiL (K := K) rfl (pi_list (pv 5))) (blkOk_by (by kernel_rfl)) (fun _ _ _ _ _ => (pg_name (i := 7) nd rfl (Or.inl rfl))) (fun _ _ _ _ _ => pts_nil) (fun _ _ _ _ _ => (pe_callB call_abs (by rfl) T.z_abs (by decide +kernel) (pa_cons (pv 7) pa_nil)))))))) pss_nil)
      (pss_cons (ps_if (pt_cmpR (k_eq (K := K) rfl (u64 hr)) (pv 1) pe_int (nomark _)) (pss_one (ps_ret (pe_lc (own := [("_law_row", 5)]) rfl nd (kiL (K := K) rfl (pi_list (pe_call (ok_law_swung T) (hr.mono (by first | decide | omega)) rfl T.d_law_swung.m T.d_law_swung.F.kp T.d_law_swung.b .nil pass0 (pa_cons (pv 0) (pa_cons (pe_call (ok_law_stretches T) (hr.mono (by first | decide | omega)) rfl T.d_law_stretches.m T.d_law_stretches.F.kp T.d_law_stretches.b .nil pass0 (pa_cons (pv 0) (pa_cons (pv 2) (pa_cons (pv 3) pa_nil)))) pa_nil))))) (blkOk_by (by kernel_rfl)) (fun _ _ _ _ _ => (pg_name (i := 5) nd rfl (Or.inl rfl))) (fun _ _ _ _ _ => pts_nil) (fun _ _ _ _ _ => (pe_lc (own := [("_law_entry", 7)]) rfl nd (kiL (K := K) rfl (pi_list (pv 5))) (blkOk_by (by kernel_rfl)) (fun _ _ _ _ _ => (pg_name (i := 7) nd rfl (Or.inl rfl))) (fun _ _ _ _ _ => pts_nil) (fun _ _ _ _ _ => (pe_callB call_abs (by rfl) T.z_abs (by decide +kernel) (pa_cons (pv 7) pa_nil)))))))) pss_nil)
      (pss_cons (ps_set (i := 4) nd rfl (Or.inr rfl) (pe_op op_add pe_int (pe_call (ok_law_next T) (hr.mono (by first | decide | omega)) rfl T.d_law_next.m T.d_law_next.F.kp T.d_law_next.b .nil pass0 (pa_cons (pv 0) (pa_cons pe_int pa_nil)))))
      (pss_one (ps_ret (pe_lc (own := [("_law_row", 5)]) rfl nd (pi_range1 (by rfl) T.z_range (pa_cons (pv 2) pa_nil)) (blkOk_by (by kernel_rfl)) (fun _ _ _ _ _ => (pg_name (i := 5) nd rfl (Or.inl rfl))) (fun _ _ _ _ _ => pts_nil) (fun _ _ _ _ _ => (pe_lc (own := [("_law_k", 6)]) rfl nd (pi_range1 (by rfl) T.z_range (pa_cons (pv 3) pa_nil)) (blkOk_by (by kernel_rfl)) (fun _ _ _ _ _ => (pg_name (i := 6) nd rfl (Or.inl rfl))) (fun _ _ _ _ _ => pts_nil) (fun _ _ _ _ _ => (pe_callTy call_int1 (by rfl) T.z_int (by decide +kernel) (pa_cons (pe_cmpR op_gt (pe_call (ok_law_next T) (hr.mono (by first | decide | omega)) rfl T.d_law_next.m T.d_law_next.F.kp T.d_law_next.b .nil pass0 (pa_cons (pv 0) (pa_cons (pv 4) pa_nil))) pe_int (nomark _)) pa_nil))))))))))))))), ?_⟩
  rintro xs M Φ ⟨p, N, hN, src, rfl, k⟩
  refine xs_seq <| xs_set <| xp_call <| xa_cons <| xp_var rfl <| xa_cons <| xp_int <| xa_nil ⟨p, N, 5, by decide, by decide, by omega, src, rfl, fun kd M1 hkd s1 sub1 => ?_⟩
  refine xs_seq <| xs_set <| xp_op <| xp_int <| xp_call <| xa_cons <| xp_var rfl <| xa_cons <| xp_int <| xa_nil ⟨p, N + 1, 5, by decide, by decide, by omega, s1, rfl, fun m1 M2 hm1 s2 sub2 => xo_i0 ?_⟩
  refine xs_seq <| xs_set <| xp_op <| xp_int <| xp_call <| xa_cons <| xp_var rfl <| xa_cons <| xp_int <| xa_nil ⟨p, N + 1 + 1, 5, by decide, by decide, by omega, s2, rfl, fun n1 M3 hn1 s3 sub3 => xo_i0 ?_⟩
  rw [show (1 : Int) + (m1 : Nat) = ((m1 + 1 : Nat) : Int) by omega, show (1 : Int) + (n1 : Nat) = ((n1 + 1 : Nat) : Int) by omega]
  have sub := (sub1.trans sub2).trans sub3
  generalize hm : m1 + 1 = m
  generalize hn : n1 + 1 = n
  have eq0 : ∀ {z : Int} {M : MH} {Φ : Ds → MH → Prop}, (∀ b, Φ (.dat (.bool b)) M) → Xo K (rEqD K) (.dat (.int (kd : Nat))) (.dat (.int z)) M Φ := fun h => xo_eqD (.dat _) (.dat _) (shD.int _ _) (shD.int _ _) (h _)
  refine xs_seq <| xs_if <| xt_tst <| xp_op <| xp_var rfl <| xp_int <| eq0 fun b => ⟨b, rfl, fun _ => ?_, fun _ => xs_nil ?_⟩
  · exact xs_ret <| xp_call <| xa_cons <| xp_var rfl <| xa_nil ⟨p, N + 3, by omega, s3, rfl, fun m n es M4 hT s4 sub4 => k m n es M4 hT (s4.mono (by omega)) (sub.trans sub4)⟩
  refine xs_seq <| xs_if <| xt_tst <| xp_op <| xp_var rfl <| xp_int <| eq0 fun b => ⟨b, rfl, fun _ => ?_, fun _ => xs_nil ?_⟩
  · refine xs_ret ?_
    refine xp_absT (p := p) (N := N + 34) (by decide) (by decide) (fun _ => rfl) (fun _ _ => rfl) ?_
    exact xp_call <| xa_cons <| xp_var rfl <| xa_cons <| xp_var rfl <| xa_cons <| xp_var rfl <| xa_nil ⟨p, N + 3, m, n, by omega, by omega, by omega, by omega, by omega, s3, rfl, fun es M4 hT s4 sub4 => ⟨es, m, n, rfl, hT, s4.mono (by omega), fun es' M5 hT5 s5 sub5 => k m n es' M5 hT5 (s5.mono (by omega)) ((sub.trans sub4).trans sub5)⟩⟩
  refine xs_seq <| xs_if <| xt_tst <| xp_op <| xp_var rfl <| xp_int <| eq0 fun b => ⟨b, rfl, fun _ => ?_, fun _ => xs_nil ?_⟩
  · refine xs_ret ?_
    refine xp_absT (p := p) (N := N + 34) (by decide) (by decide) (fun _ => rfl) (fun _ _ => rfl) ?_
    refine xp_call <| xa_cons <| xp_var rfl <| xa_cons <| xp_call <| xa_cons <| xp_var rfl <| xa_cons <| xp_var rfl <| xa_cons <| xp_var rfl <| xa_nil ⟨p, N + 3, m, n, by omega, by omega, by omega, by omega, by omega, s3, rfl, fun es M4 hT s4 sub4 => xa_nil ⟨p, N + 3 + 15, m, n, es, hT.imp fun x hx => ?_, by omega, s4, rfl, fun m' n' es5 M5 hT5 s5 sub5 => ⟨es5, m', n', rfl, hT5, s5.mono (by omega), fun es6 M6 hT6 s6 sub6 => k m' n' es6 M6 hT6 (s6.mono (by omega)) (((sub.trans sub4).trans sub5).trans sub6)⟩⟩⟩
    rcases hx with h | h
    · exact .inl h
    · exact .inr (.inl h)
  refine xs_seq <| xs_set <| xp_op <| xp_int <| xp_call <| xa_cons <| xp_var rfl <| xa_cons <| xp_int <| xa_nil ⟨p, N + 3, 3, by decide, by decide, by omega, s3, rfl, fun th M4 hth s4 sub4 => xo_i0 ?_⟩
  rw [show (2 : Int) + (th : Nat) = ((th + 2 : Nat) : Int) by omega]
  refine xs_ret ?_
  refine xp_draw (α := Nat) (fun i => .int (i : Nat)) (fun _ d => RowOk ok01 n d) p 5 <| xi_rng1 <| xa_cons <| xp_var rfl <| xa_nil ⟨m, rfl, by omega, by omega, List.range m, N + 4, by rw [List.length_range]; omega, fun _ _ => trivial, ev_rng rfl, by rw [List.length_range]; omega, s4, ?_, fun es M5 hes sub5 s5 => .inl ?_⟩
  · intro i i' M' hi subi si
    obtain ⟨hi', rfl⟩ := range_at hi
    refine xg_name (by decide) ⟨rfl, ?_⟩
    refine xp_draw (α := Nat) (fun i => .int (i : Nat)) (fun _ d => Ent ok01 d) p 1 <| xi_rng1 <| xa_cons <| xp_var rfl <| xa_nil ⟨n, rfl, by omega, by omega, List.range n, N + 4 + 5 * i, by rw [List.length_range]; omega, fun _ _ => trivial, ev_rng rfl, by rw [List.length_range]; omega, si, ?_, fun es M6 hes sub6 s6 => .inl ⟨subi.trans sub6, s6.mono (by rw [List.length_range]; omega), _, rfl, ?_⟩⟩
    · intro j j' M7 hj subj sj
      obtain ⟨hj', rfl⟩ := range_at hj
      refine xg_name (by decide) ⟨rfl, xp_cb <| xa_cons <| xp_op <| xp_call <| xa_cons <| xp_var rfl <| xa_cons <| xp_var rfl <| xa_nil ⟨p, N + 4 + 5 * i + 1 * j, th + 2, by omega, by omega, by omega, sj, rfl, fun r M8 hr s8 sub8 => xp_int <| xo_b0 <| xa_nil <| xc_intB ⟨subj.trans sub8, s8.mono (by omega), _, rfl, _, rfl, ?_⟩⟩⟩
      split
      · exact .inr rfl
      · exact .inl rfl
    · obtain ⟨rr, rfl, h1, h2⟩ := row_of (fun _ _ h => h) hes
      exact ⟨rr, rfl, by rw [h1, List.length_range], h2⟩
  · refine k m n es M5 ⟨by omega, by omega, by omega, by omega, by rw [← hes.length, List.length_range], fun d hd => ?_⟩ (s5.mono (by rw [List.length_range]; omega)) ((sub.trans sub4).trans sub5)
    obtain ⟨_, _, h⟩ := Paired.mem2 hes d hd
    exact h
end
end K62
end
section
set_option Elab.async false
set_option linter.all false
set_option maxRecDepth 100000
set_option maxHeartbeats 4000000
set_option autoImplicit false
namespace K62
open PySem L2
theorem swap_app (old new : Nat) (a b : List Nat) : swapL old new (a ++ b) = swapL old new a ++ swapL old new b := by unfold swapL; rw [List.map_append]
section
variable {P : Program} {w : World} {K : PySem.W.Frag} {mg : Str → Option Value} {base : Heap}
def p_joining : SpP := fun xs M Φ => ∃ (p : Addr) (qs : List Addr) (S : Tab) (m n : Nat), TabQ M p qs S ∧ Rect S m n ∧ Ones S ∧ xs = [.adr p] ∧ Φ (.dat (.list ((jrun (ent S) m n (spotsOf m n)).js.map spD))) M
/-- what stands between two turns -/
structure LJ (M M' : MH) (m n : Nat) (f : Addr) (st : JS) : Prop where
  sub : Sub M M'
  nf : M f = none
  found : M' f = some (.lst (dats (st.js.map spD)))
  lr : st.lr.length = m
  lc : st.lc.length = n
theorem jjs_le (T : Nat → Nat → Int) : ∀ (l : List Spot) (st : JS), (l.foldl (jstep T) st).js.length ≤ st.js.length + l.length
  | [], _ => Nat.le_refl _
  | s :: l, st => by
    have h := jjs_le T l (jstep T st s)
    have h2 : (jstep T st s).js.length ≤ st.js.length + 1 := by
      unfold jstep
      split
      · split
        · exact Nat.le_succ _
        · rw [List.length_append]; exact Nat.le_refl _
      · exact Nat.le_succ _
    rw [List.foldl_cons, List.length_cons]; omega
theorem ok_law_joining (T : Txt w K mg) : FnOk P w K mg base CX0 1 T.d_law_joining.f T.d_law_joining.fd ["_law_table"] (spE K p_joining) := by
  refine fn_ok T.d_law_joining.F sc_law_joining (fun xs M Φ ⟨_, _, _, _, _, _, _, _, h, _⟩ => by rw [h]; rfl) fun cdv A outer s H E hr => ?_
  have nd := sc_law_joining.nd
  refine ⟨_, (pss_cons (ps_set (i := 1) nd rfl (Or.inl rfl) (pe_listRg rfl rfl T.z_list (prg_1 rfl T.z_range (pe_op op_add (pe_callB (k_len (K := K) rfl) (by rfl) T.z_len (by decide +kernel) (pa_cons (pv 0) pa_nil)) (pe_callB (k_len (K := K) rfl) (by rfl) T.z_len (by decide +kernel) (pa_cons (pe_ix (k_ix (K := K) rfl) (pv 0) pe_int (fun _ _ => rfl)) pa_nil))))))
      (pss_cons (ps_set (i := 2) nd rfl (Or.inl rfl) (pe_lst pa_nil))
      (pss_cons (ps_for PassesOwn.never rfl (kiE (K := K) rfl (pi_enum (by rfl) T.z_enumerate (pa_cons (pv 0) pa_nil))) (kgT (K := K) rfl (pg_tup (n := 2) rfl (pgs_cons (pg_name (i := 3) nd rfl (Or.inl rfl)) (pgs_cons (pg_name (i := 4) nd rfl (Or.inl rfl)) pgs_nil)))) (pss_one (ps_for PassesOwn.never rfl (kiE (K := K) rfl (pi_enum (by rfl) T.z_enumerate (pa_cons (pv 4) pa_nil))) (kgT (K := K) rfl (pg_tup (n := 2) rfl (pgs_cons (pg_name (i := 5) nd rfl (Or.inl rfl)) (pgs_cons (pg_name (i := 6) nd rfl (Or.inl rfl)) pgs_nil)))) (pss_cons (ps_set (i := 7) nd rfl (Or.inr rfl) (pe_ix (k_ix (K := K) rfl) (pv 1) (pe_op op_add (pe_callB (k_len (K := K) rfl) (by rfl) T.z_len (by decide +kernel) (pa_cons (pv 0) pa_nil)) (pv 5)) (fun _ _ => rfl)))
      (pss_cons (ps_set (i := 8) nd rfl (Or.inr rfl) (pe_ix (k_ix (K := K) rfl) (pv 1) (pv 3) (fun _ _ => rfl)))
      (pss_one (ps_if (PW.pt (pw_and (pt_cmpR (k_ne (K := K) rfl (u64 hr)) (pv 6) pe_int (nomark _)) (pw_and1 (pt_cmpR (k_ne (K := K) rfl (u64 hr)) (pv 7) (pv 8) (nomark _))))) (pss_cons (ps_expr (kbm (K := K) rfl (pe_bm PySem.F.plainAttrs_list PySem.F.slot_list_append PySem.F.type_list_append mt_append (pv 2) (pa_cons (pe_tup (pa_cons (pv 3) (pa_cons (pv 5) pa_nil))) pa_nil))))
      (pss_one (ps_setLc (i := 1) (own := [("_law_label", 9)]) rfl nd rfl rfl (sw_true rfl rfl rfl (by decide +kernel)) (kiL (K := K) rfl (pi_list (pv 1))) (blkOk_by (by kernel_rfl)) (fun _ _ _ _ _ => (pg_name (i := 9) nd rfl (Or.inl rfl))) (fun _ _ _ _ _ => pts_nil) (fun _ _ _ _ _ => (pe_ix (k_ix (K := K) rfl) (pe_lst (pa_cons (pv 9) (pa_cons (pv 8) pa_nil))) (pe_callTy call_int1 (by rfl) T.z_int (by decide +kernel) (pa_cons (pe_cmpR (k_eq (K := K) rfl (u64 hr)) (pv 9) (pv 7) (nomark _)) pa_nil)) (fun _ _ => rfl)))))) pss_nil)))))))
      (pss_one (ps_ret (pv 2)))))), ?_⟩
  rintro xs M Φ ⟨p, qs, S, m, n, hT, hS, h01, rfl, k⟩
  have m0 := hS.m0
  have m5 := hS.m5
  have n5 := hS.n5
  obtain ⟨r0, e0, hr0⟩ := hS.at (i := 0) (by omega)
  obtain ⟨q0, hq0, hm0⟩ := hT.at e0
  have hql : (qs.map Ds.adr).length = m := by rw [List.length_map, hT.len, hS.len]
  refine xs_pure ?_
  refine xs_seq <| xs_set <| xp_lstRg1 <| xp_op <| xp_cb <| xa_cons <| xp_var rfl <| xa_nil <| xc_lenM hT.top <| xp_cb <| xa_cons <| xp_op <| xp_var rfl <| xp_int <| xo_ixM (x := .adr q0) hT.top (at_nat (j := 0) (by rw [List.getElem?_map, hq0]; rfl)) <| xa_nil <| xc_lenM hm0 <| xo_i0 ⟨m + n, ?_, by omega, ?_⟩
  · rw [hql, List.length_map, List.length_map, hr0]; rfl
  have elb : (List.range (m + n)).map (fun i => ((i : Nat) : Int)) = natI ((jbeg m n).lr ++ (jbeg m n).lc) := by
    unfold natI jbeg
    congr 1
    rw [List.range_add]
  rw [elb]
  refine xs_seq <| xs_set <| xp_lstM <| xa_nil ⟨Nat.zero_le _, fun f hf => ?_⟩
  have lj0 : LJ M (M.up f (.lst [])) m n f (jbeg m n) := ⟨Sub.up hf, hf, MH.up_same, by simp [jbeg], by simp [jbeg]⟩
  refine xs_seq <| xs_for <| xi_enumM <| xa_cons <| xp_var rfl <| xa_nil ⟨p, _, rfl, by rw [MH.up_ne (MH.ne' hf hT.top).symm]; exact hT.top, [3, 4], fun i ds' M' => ∃ a b c d e g h, ds' = [some (.adr p), some (.dat (nD ((jrun (ent S) m n ((List.range i).flatMap fun i => rowSpots n i)).lr ++ (jrun (ent S) m n ((List.range i).flatMap fun i => rowSpots n i)).lc))), some (.adr f), a, b, c, d, e, g, h] ∧ LJ M M' m n f (jrun (ent S) m n ((List.range i).flatMap fun i => rowSpots n i)), ?_, ?_, ?_, ?_⟩
  · exact ⟨_, _, _, _, _, _, _, rfl, lj0⟩
  · rintro i ds' M' _ ⟨a, b, c, d, e, g, h, rfl, lj⟩
    exact (hT.sub lj.sub).top
  · rintro i x ds' M' M2 hi ⟨a, b, c, d, e, g, h, rfl, lj⟩ ⟨y, t, hy, ht, rfl, rfl⟩
    rw [hql] at hi
    have hrow := hS.rowAt hi
    obtain ⟨q, hq, hqm⟩ := hT.at hrow
    rw [List.getElem?_map, hq] at hy
    cases hy
    have ht0 := lj.sub.none ht
    have lj2 : LJ M (M'.up t (.tup [.dat (.int (i : Nat)), .adr q])) m n f (jrun (ent S) m n ((List.range i).flatMap fun i => rowSpots n i)) := ⟨lj.sub.new ht0, lj.nf, by rw [MH.up_ne (MH.ne lj.found ht)]; exact lj.found, lj.lr, lj.lc⟩
    refine xg_tupM MH.up_same rfl <| xgs_cons <| xg_name (by decide) <| xgs_cons <| xg_name (by decide) <| xgs_nil ?_
    have hq2 : (M'.up t (.tup [.dat (.int (i : Nat)), .adr q])) q = some (rowM (rowAt S n i)) := lj2.sub q _ hqm
    generalize M'.up t (.tup [.dat (.int (i : Nat)), .adr q]) = M2 at lj2 hq2
    refine xs_forW (Gd0 := fun M' => M' q = some (rowM (rowAt S n i))) (l := (rowAt S n i).zipIdx) (enc := fun z => .tuple [.int (z.2 : Nat), .int z.1]) [5, 6] (fun j ds' M' => ∃ c d e g h, ds' = [some (.adr p), some (.dat (nD ((((List.range j).map fun j => (i, j)).foldl (jstep (ent S)) (jrun (ent S) m n ((List.range i).flatMap fun i => rowSpots n i))).lr ++ (((List.range j).map fun j => (i, j)).foldl (jstep (ent S)) (jrun (ent S) m n ((List.range i).flatMap fun i => rowSpots n i))).lc))), some (.adr f), some (.dat (.int (i : Nat))), some (.adr q), c, d, e, g, h] ∧ LJ M M' m n f (((List.range j).map fun j => (i, j)).foldl (jstep (ent S)) (jrun (ent S) m n ((List.range i).flatMap fun i => rowSpots n i)))) ?_ ?_ ⟨_, _, _, _, _, rfl, lj2⟩ ?_ ?_
    · rw [← enumD_map PyData.int]
      exact xw_enumM (xa_cons <| xp_var rfl <| xa_nil ⟨rfl, rfl⟩) hq2
    · rintro j ds' M3 ⟨c, d, e, g, h, rfl, lj3⟩
      exact lj3.sub q _ hqm
    · rintro j ⟨v, j'⟩ ds' M3 hj ⟨c, d, e, g, h, rfl, lj3⟩
      rw [zipIdx_row, List.getElem?_map] at hj
      obtain ⟨hj', e'⟩ : j < n ∧ (ent S i j, j) = (v, j') := by
        by_cases z : j < n
        · rw [List.getElem?_range z] at hj; exact ⟨z, Option.some.inj hj⟩
        · rw [List.getElem?_eq_none (by rw [List.length_range]; omega)] at hj; cases hj
      cases e'
      rw [List.range_succ, List.map_append, List.foldl_append]
      have few : (((List.range j).map fun j => (i, j)).foldl (jstep (ent S)) (jrun (ent S) m n ((List.range i).flatMap fun i => rowSpots n i))).js.length < 100000 := by
        have b1 := jjs_le (ent S) ((List.range j).map fun j => (i, j)) (jrun (ent S) m n (spotsOf i n))
        have b2 := jjs_le (ent S) (spotsOf i n) (jbeg m n)
        rw [spots_len] at b2
        have b3 : i * n ≤ 5 * 5 := Nat.mul_le_mul (by omega) n5
        rw [List.length_map, List.length_range] at b1
        refine Nat.lt_of_le_of_lt b1 ?_
        have b4 : (jbeg m n).js.length = 0 := rfl
        unfold jrun
        omega
      generalize ((List.range j).map fun j => (i, j)).foldl (jstep (ent S)) (jrun (ent S) m n ((List.range i).flatMap fun i => rowSpots n i)) = st at lj3 few
      have hT3 := hT.sub lj3.sub
      have li : i < st.lr.length := by rw [lj3.lr]; exact hi
      have lj' : j < st.lc.length := by rw [lj3.lc]; exact hj'
      have g1 : (st.lr ++ st.lc)[m + j]? = some (st.lc.getD j 0) := by
        rw [List.getElem?_append_right (by rw [lj3.lr]; omega), lj3.lr, Nat.add_sub_cancel_left, List.getD_eq_getElem?_getD, List.getElem?_eq_getElem lj']; rfl
      have g2 : (st.lr ++ st.lc)[i]? = some (st.lr.getD i 0) := by
        rw [List.getElem?_append_left li, List.getD_eq_getElem?_getD, List.getElem?_eq_getElem li]; rfl
      refine xg_tup rfl <| xgs_cons <| xg_name (by decide) <| xgs_cons <| xg_name (by decide) <| xgs_nil ?_
      refine xs_seq <| xs_set <| xp_op <| xp_var rfl <| xp_op <| xp_cb <| xa_cons <| xp_var rfl <| xa_nil <| xc_lenM hT3.top <| xp_var rfl <| xo_i0 ?_
      rw [hql, show ((m : Nat) : Int) + (j : Nat) = ((m + j : Nat) : Int) by omega]
      refine xo_ixL (nD_at g1) ?_
      refine xs_seq <| xs_set <| xp_op <| xp_var rfl <| xp_var rfl <| xo_ixL (nD_at g2) ?_
      have h01' := ones_ent h01 i j
      refine xs_if <| xt_and <| xt_tst <| xp_op <| xp_var rfl <| xp_int <| xo_neD (.dat _) (.dat _) (shD.int _ _) (shD.int _ _) ⟨_, rfl, fun hb => ?_, fun hb => no rfl <| xs_nil ?_⟩
      · rw [eqv_int] at hb
        have h1 : ent S i j = 1 := by
          rcases h01' with z | z
          · rw [z] at hb; cases hb
          · exact z
        refine xt_tst <| xp_op <| xp_var rfl <| xp_var rfl <| xo_neD (.dat _) (.dat _) (shD.int _ _) (shD.int _ _) ⟨_, rfl, fun hb2 => ?_, fun hb2 => xs_nil ?_⟩
        · rw [eqv_nat] at hb2
          have hne : st.lc.getD j 0 ≠ st.lr.getD i 0 := fun z => by rw [decide_eq_true z] at hb2; cases hb2
          have es : (([j] : List Nat).map fun j => (i, j)).foldl (jstep (ent S)) st = ⟨swapL (st.lc.getD j 0) (st.lr.getD i 0) st.lr, swapL (st.lc.getD j 0) (st.lr.getD i 0) st.lc, st.js ++ [(i, j)], st.left⟩ := by
            show jstep (ent S) st (i, j) = _
            unfold jstep
            rw [if_pos h1, if_neg hne]
          show Xs K _ _ _ _
          refine xs_seq <| xs_app2 rfl lj3.found (by rw [List.length_map]; exact few) <| xp_tup <| xa_cons <| xp_var rfl <| xa_cons <| xp_var rfl <| xa_nil ⟨[_, _], rfl, (show 2 ≤ 100000 by decide), rfl, _, rfl, ?_⟩
          refine xs_set ?_
          refine xp_mapD (l := st.lr ++ st.lc) (enc := fun y : Nat => .int y) (fun y => .int ((if y = st.lc.getD j 0 then st.lr.getD i 0 else y : Nat) : Int)) (by rw [listI]; exact xd_var rfl) (by rw [List.length_append, lj3.lr, lj3.lc]; omega) ?_ ?_
          · intro z y hy
            refine xg_name (by decide) ⟨rfl, xp_op <| xp_lst <| xa_cons <| xp_var rfl <| xa_cons <| xp_var rfl <| xa_nil ⟨[_, _], rfl, (show 2 ≤ 100000 by decide), xp_cb <| xa_cons <| xp_op <| xp_var rfl <| xp_var rfl <| xo_eqD (.dat _) (.dat _) (shD.int _ _) (shD.int _ _) <| xa_nil <| xc_intB ?_⟩⟩
            rw [eqv_nat]
            by_cases hz : y = st.lc.getD j 0
            · rw [decide_eq_true hz, if_pos rfl, if_pos hz]
              exact xo_ixL (at_nat (j := 1) rfl) ⟨rfl, rfl⟩
            · rw [decide_eq_false hz, if_neg hz]
              exact xo_ixL (at_nat (j := 0) rfl) ⟨rfl, rfl⟩
          · rw [es, mapI, show ((st.lr ++ st.lc).map fun y => if y = st.lc.getD j 0 then st.lr.getD i 0 else y) = swapL (st.lc.getD j 0) (st.lr.getD i 0) st.lr ++ swapL (st.lc.getD j 0) (st.lr.getD i 0) st.lc from swap_app _ _ _ _]
            exact ⟨_, _, _, _, _, rfl, lj3.sub.new lj3.nf, lj3.nf, by rw [MH.up_same, List.map_append]; rfl, by unfold swapL; rw [List.length_map]; exact lj3.lr, by unfold swapL; rw [List.length_map]; exact lj3.lc⟩
        · rw [eqv_nat] at hb2
          have heq : st.lc.getD j 0 = st.lr.getD i 0 := by
            by_cases z : st.lc.getD j 0 = st.lr.getD i 0
            · exact z
            · rw [decide_eq_false z] at hb2; cases hb2
          have es : (([j] : List Nat).map fun j => (i, j)).foldl (jstep (ent S)) st = { st with left := st.left ++ [(i, j)] } := by
            show jstep (ent S) st (i, j) = _
            unfold jstep
            rw [if_pos h1, if_pos heq]
          rw [es]
          exact ⟨_, _, _, _, _, rfl, lj3.sub, lj3.nf, lj3.found, lj3.lr, lj3.lc⟩
      · rw [eqv_int] at hb
        have h0 : ent S i j = 0 := by
          rcases h01' with z | z
          · exact z
          · rw [z] at hb; cases hb
        have es : (([j] : List Nat).map fun j => (i, j)).foldl (jstep (ent S)) st = st := by
          show jstep (ent S) st (i, j) = _
          unfold jstep
          rw [if_neg (show ¬ ent S (i, j).1 (i, j).2 = 1 from fun z => by rw [show ent S (i, j).1 (i, j).2 = 0 from h0] at z; cases z)]
        rw [es]
        exact ⟨_, _, _, _, _, rfl, lj3⟩
    · rintro ds' M3 ⟨c, d, e, g, h, rfl, lj3⟩
      rw [List.length_zipIdx, rowAt_len] at lj3
      have er : jrun (ent S) m n ((List.range (i + 1)).flatMap fun i => rowSpots n i) = ((List.range n).map fun j => (i, j)).foldl (jstep (ent S)) (jrun (ent S) m n ((List.range i).flatMap fun i => rowSpots n i)) := by
        rw [List.range_succ, List.flatMap_append, List.flatMap_singleton]
        unfold jrun
        rw [List.foldl_append]; rfl
      rw [er, List.length_zipIdx, rowAt_len]
      exact ⟨_, _, _, _, _, _, _, rfl, lj3⟩
  · rintro ds' M' ⟨a, b, c, d, e, g, h, rfl, lj⟩
    rw [hql] at lj
    exact xs_ret <| xp_frz <| xp_var rfl ⟨f, _, rfl, lj.found, lj.sub.del lj.nf, k⟩
end
end K62
end
section
set_option Elab.async false
set_option linter.all false
set_option maxRecDepth 100000
set_option maxHeartbeats 4000000
set_option autoImplicit false
namespace K62
open PySem L2
theorem xp_slDM {K : PySem.W.Frag} {ds : DS} {M : MH} {Φ : Ds → MH → Prop} {te : TE} {tl th : TO} {lo hi : Option Int} (hl : Pt K tl ds lo) (hh : Pt K th ds hi) (h : Xp K te ds M fun x M1 => ∃ es, x = .dat (.list es) ∧ ∀ l, M1 l = none → Φ (.adr l) (M1.up l (.lst (dats (cutL es lo hi))))) : Xp K (tSl (rSlL K) te tl th) ds M Φ := fun σ G H sd I Q q =>
  h σ G H sd I _ fun u x M1 G1 H1 s1 d1 ⟨es, e, k⟩ => by
    subst e
    cases d1 with
    | lst ha hd =>
      rename_i us
      have fin : rSlL K (.ref _) lo hi H1 Q := ⟨_, _, rfl, SqL.of (s1.inn.ex _ _ ha), fun p hp => by
        have c := cut_pair (K := K) hd.dv lo hi
        rw [cut_map] at c
        have s := Stp.newM s1.inn (o := .lst (cutV us lo hi)) (m := .lst (dats (cutL es lo hi))) hp c
        exact q _ (.adr p) _ _ _ (s1.trans s) rfl (k p (s1.inn.no hp))⟩
      cases hl with
      | no => cases hh with
        | no => exact fin
        | c j => exact ⟨j, rfl, fin⟩
      | c i => cases hh with
        | no => exact ⟨i, rfl, fin⟩
        | c j => exact ⟨i, rfl, j, rfl, fin⟩
def leftF (S : Tab) (m n : Nat) : List Spot := (jrun (ent S) m n (spotsOf m n)).left
def onesN (S : Tab) (m n : Nat) : Nat := ((spotsOf m n).filter fun s => decide (ent S s.1 s.2 = 1)).length
theorem ones_few {S : Tab} {m n : Nat} (h : Rect S m n) : onesN S m n ≤ 25 := by
  unfold onesN
  refine Nat.le_trans (List.length_filter_le _ _) ?_
  rw [spots_len]
  exact Nat.mul_le_mul h.m5 h.n5
theorem leftF_eq (S : Tab) (m n : Nat) : leftF S m n = (spotsOf m n).filter fun s => decide (ent S s.1 s.2 = 1 ∧ s ∉ (jrun (ent S) m n (spotsOf m n)).js) := (JInv.all (ent S) m n).left
theorem ones_less {S : Tab} {m n : Nat} (h : Rect S m n) {s : Spot} (hs : s ∈ leftF S m n) : onesN (put2 S s.1 s.2 0) m n < onesN S m n := by
  rw [leftF_eq] at hs
  obtain ⟨hm, hp⟩ := List.mem_filter.mp hs
  obtain ⟨h1, _⟩ := of_decide_eq_true hp
  obtain ⟨hi, hj⟩ := mem_spots.mp hm
  obtain ⟨_, he⟩ := ent_put h hi hj 0
  unfold onesN
  have := nodup_le (l := s :: (spotsOf m n).filter fun x => decide (ent (put2 S s.1 s.2 0) x.1 x.2 = 1)) (r := (spotsOf m n).filter fun x => decide (ent S x.1 x.2 = 1)) ?_ fun x hx => ?_
  · rw [List.length_cons] at this; omega
  · refine List.nodup_cons.mpr ⟨fun hx => ?_, (spots_nodup m n).filter _⟩
    have := of_decide_eq_true (List.mem_filter.mp hx).2
    rw [he, if_pos rfl] at this
    cases this
  · rcases List.mem_cons.mp hx with rfl | hx
    · exact List.mem_filter.mpr ⟨hm, decide_eq_true h1⟩
    · obtain ⟨h2, h3⟩ := List.mem_filter.mp hx
      have h3 := of_decide_eq_true h3
      rw [he] at h3
      refine List.mem_filter.mpr ⟨h2, decide_eq_true ?_⟩
      by_cases z : (x.1, x.2) = (s.1, s.2)
      · rw [if_pos z] at h3; cases h3
      · rw [if_neg z] at h3; exact h3
theorem any_sp (l : List Spot) (s : Spot) : ((l.map spD).any fun z => PyData.eqv z (spD s)) = decide (s ∈ l) := by
  rw [List.any_map]
  induction l with
  | nil => rfl
  | cons a l ih =>
    rw [List.any_cons, ih]
    show (PyData.eqv (spD a) (spD s) || decide (s ∈ l)) = _
    rw [eqv_sp]
    by_cases h : a = s
    · subst h; simp
    · have : ¬ s = a := fun e => h e.symm
      simp [h, this]
section
variable {P : Program} {w : World} {K : PySem.W.Frag} {mg : Str → Option Value} {base : Heap}
/-- what stands between two turns of the thinning -/
structure TS (p : Addr) (M M' : MH) (m n : Nat) (fp : Addr) (qs : List Addr) (Sg : Tab) : Prop where
  sub : SubP p M M'
  nf : M fp = none
  nq : ∀ q ∈ qs, M q = none
  tab : TabQ M' fp qs Sg
  rect : Rect Sg m n
  ok : ∀ i j, ent Sg i j = 0 ∨ ent Sg i j = 1
theorem TS.more {p : Addr} {M M' M2 : MH} {m n : Nat} {fp : Addr} {qs : List Addr} {Sg : Tab} (h : TS p M M' m n fp qs Sg) (e : SubP p M' M2) (hp : ∃ o, M p = some o) : TS p M M2 m n fp qs Sg := by
  have np : ∀ b, M b = none → b ≠ p := fun b hb z => by
    obtain ⟨o, ho⟩ := hp
    rw [z, ho] at hb; cases hb
  refine ⟨h.sub.trans e, h.nf, h.nq, h.tab.frame fun b hb => ?_, h.rect, h.ok⟩
  have hin := h.tab.inM hb
  cases q : M' b with
  | none => exact absurd q hin
  | some o =>
    refine e b o (np b ?_) q
    rcases hb with rfl | hb
    · exact h.nf
    · exact h.nq b hb
def p_thinned : SpP := fun xs M Φ => ∃ (p : Addr) (N : Nat) (S : Tab) (m n : Nat), N < 900000 ∧ Src M p N ∧ Rect S m n ∧ Ones S ∧ xs = [.adr p, .dat (tabD S)] ∧
  ∀ F m' n' M', Rect F m' n' → m' ≤ 4 → Ones F → (leftF F m' n').length ≤ 6 → SubP p M M' → Φ (.dat (.tuple [tabD F, .list ((leftF F m' n').map spD)])) M'
theorem ok_law_thinned (T : Txt w K mg) : FnOk P w K mg base CX0 3 T.d_law_thinned.f T.d_law_thinned.fd ["_law_source", "_law_table"] (spE K p_thinned) := by
  refine fn_ok T.d_law_thinned.F sc_law_thinned (fun xs M Φ ⟨_, _, _, _, _, _, _, _, _, h, _⟩ => by rw [h]; rfl) fun cdv A outer s H E hr => ?_
  have nd := sc_law_thinned.nd
  refine ⟨_, (pss_cons (ps_setLc (i := 2) (own := [("_law_row", 6)]) rfl nd rfl rfl (sw_true rfl rfl rfl (by decide +kernel)) (kiL (K := K) rfl (pi_list (pe_slice (k_sl (K := K) rfl) (pv 1) po_none (po_some pe_int)))) (blkOk_by (by kernel_rfl)) (fun _ _ _ _ _ => (pg_name (i := 6) nd rfl (Or.inl rfl))) (fun _ _ _ _ _ => pts_nil) (fun _ _ _ _ _ => (pe_slice (k_sl (K := K) rfl) (pv 6) po_none (po_some pe_int))))
      (pss_cons (ps_set (i := 3) nd rfl (Or.inl rfl) (pe_op op_rep (pe_lst (pa_cons pe_int pa_nil)) pe_int))
      (pss_cons (ps_while PassesOwn.never (pt_cmpR op_gt (pe_callB (k_len (K := K) rfl) (by rfl) T.z_len (by decide +kernel) (pa_cons (pv 3) pa_nil)) pe_int (nomark _)) (pss_cons (ps_set (i := 4) nd rfl (Or.inr rfl) (pe_call (ok_law_joining T) (hr.mono (by first | decide | omega)) rfl T.d_law_joining.m T.d_law_joining.F.kp T.d_law_joining.b .nil pass0 (pa_cons (pv 2) pa_nil)))
      (pss_cons (ps_set (i := 3) nd rfl (Or.inl rfl) (pe_lst pa_nil))
      (pss_cons (ps_for PassesOwn.never rfl (kiE (K := K) rfl (pi_enum (by rfl) T.z_enumerate (pa_cons (pv 2) pa_nil))) (kgT (K := K) rfl (pg_tup (n := 2) rfl (pgs_cons (pg_name (i := 5) nd rfl (Or.inr rfl)) (pgs_cons (pg_name (i := 6) nd rfl (Or.inl rfl)) pgs_nil)))) (pss_one (ps_set (i := 3) nd rfl (Or.inl rfl) (pe_op op_cat (pv 3) (pe_lc (own := [("_law_j", 7), ("_law_entry", 8)]) rfl nd (kiE (K := K) rfl (pi_enum (by rfl) T.z_enumerate (pa_cons (pv 6) pa_nil))) (blkOk_by (by kernel_rfl)) (fun _ _ _ _ _ => (kgT (K := K) rfl (pg_tup (n := 2) rfl (pgs_cons (pg_name (i := 7) nd rfl (Or.inl rfl)) (pgs_cons (pg_name (i := 8) nd rfl (Or.inl rfl)) pgs_nil))))) (fun _ _ _ _ _ => (pts_one (PW.pt (pw_and (pt_cmpR (k_eq (K := K) rfl (u64 hr)) (pv 8) pe_int (nomark _)) (pw_and1 (pt_cmpR (k_ni (K := K) rfl (u65 hr)) (pe_tup (pa_cons (pv 5) (pa_cons (pv 7) pa_nil))) (pv 4) (by rfl))))))) (fun _ _ _ _ _ => (pe_tup (pa_cons (pv 5) (pa_cons (pv 7) pa_nil)))))))))
      (pss_one (ps_if (pt_cmpR op_gt (pe_callB (k_len (K := K) rfl) (by rfl) T.z_len (by decide +kernel) (pa_cons (pv 3) pa_nil)) pe_int (nomark _)) (pss_cons (ps_asg (pe_call (ok_law_one T) (hr.mono (by first | decide | omega)) rfl T.d_law_one.m T.d_law_one.F.kp T.d_law_one.b .nil pass0 (pa_cons (pv 0) (pa_cons (pv 3) pa_nil))) (kgT (K := K) rfl (pg_tup (n := 2) rfl (pgs_cons (pg_name (i := 5) nd rfl (Or.inr rfl)) (pgs_cons (pg_name (i := 7) nd rfl (Or.inl rfl)) pgs_nil)))))
      (pss_one (ps_asg pe_int (pg_sub (pe_ix (k_ix (K := K) rfl) (pv 2) (pv 5) (fun _ _ => rfl)) (pv 7) set_list)))) pss_nil))))))
      (pss_one (ps_ret (pe_tup (pa_cons (pv 2) (pa_cons (pv 3) pa_nil)))))))), ?_⟩
  rintro xs M Φ ⟨p, N, S, m, n, hN, src, hS, h01, rfl, k⟩
  have m5 := hS.m5
  have n5 := hS.n5
  have hsp := src.some
  refine xs_seq <| xs_set ?_
  refine xp_mkT (Gd0 := fun _ => True) (l := S.take 4) (enc := rowD) (fun r => r) (xd_list <| xp_sl .no (.c 4) <| xp_var rfl ⟨_, rfl, by rw [show (4 : Int) = ((4 : Nat) : Int) from rfl, cut_take, List.map_take], rfl⟩) (fun _ _ => trivial) (by rw [List.length_take]; omega) ?_ fun fp qs M1 sub1 hfp hqs hT => ?_
  · intro i r M' hr sub
    have hrl := hS.row r (List.mem_of_mem_take (List.mem_of_getElem? hr))
    refine xg_name (by decide) ⟨rfl, xp_slDM .no (.c 5) <| xp_var rfl ⟨_, rfl, fun q hq => ⟨q, rfl, hq, ?_⟩⟩⟩
    rw [show (5 : Int) = ((5 : Nat) : Int) from rfl, cut_take, List.take_of_length_le (by rw [List.length_map]; omega)]
  · rw [List.map_id'] at hT
    have hR4 : Rect (S.take 4) (min 4 m) n := ⟨by have := hS.m0; omega, by omega, hS.n0, n5, by rw [List.length_take, hS.len], fun r hr => hS.row r (List.mem_of_mem_take hr)⟩
    have h4 : Ones (S.take 4) := fun r hr x hx => h01 r (List.mem_of_mem_take hr) x hx
    generalize hm4 : min 4 m = m4 at hR4
    have hm44 : m4 ≤ 4 := by omega
    generalize S.take 4 = S4 at hT hR4 h4
    refine xs_seq <| xs_set <| xp_op <| xp_lst <| xa_cons <| xp_int <| xa_nil ⟨[.int 1], rfl, len1, xp_int ?_⟩
    refine xo_rep (n := 7) (by decide) ?_
    have ts0 : TS p M M1 m4 n fp qs S4 := ⟨sub1.p, hfp, hqs, hT, hR4, fun i j => ones_ent h4 i j⟩
    have few0 := ones_few hR4
    have s1 : Src M1 p N := by
      obtain ⟨a, b, c, e, r⟩ := src
      exact ⟨a, b, c, sub1 p _ e, r⟩
    refine xs_seq <| xs_while (Wf := fun μ ds' M' => ∃ (Sg : Tab) (lf : List PyData) (a b c d e : Option Ds), ds' = [some (.adr p), some (.dat (tabD S)), some (.adr fp), some (.dat (.list lf)), a, b, c, d, e] ∧ TS p M M' m4 n fp qs Sg ∧ (lf.length ≤ 6 → lf = (leftF Sg m4 n).map spD) ∧ μ = 2 * onesN Sg m4 n + (if 6 < lf.length then 1 else 0) ∧ Src M' p (N + (60 - μ))) _ ⟨S4, _, _, _, _, _, _, rfl, ts0, fun h => ?_, rfl, s1.mono (by omega)⟩ ?_
    · rw [List.length_replicate] at h; omega
    rintro μ ds' M2 ⟨Sg, lf, a, b, c, d, e, rfl, ts, hlf, hμ, s2⟩
    have few := ones_few ts.rect
    have mr0 := ts.rect.m0
    have nr5 := ts.rect.n5
    refine xt_tst <| xp_op <| xp_cb <| xa_cons <| xp_var rfl <| xa_nil <| xc_len (.dat _) <| xp_int <| xo_b0 ⟨_, rfl, fun hgt => ?_, fun hle => ?_⟩
    · have hgt := of_decide_eq_true hgt
      have hμ2 : μ = 2 * onesN Sg m4 n + 1 := by rw [hμ, if_pos (by omega)]
      have hO : Ones Sg := ones_of_ent ts.rect ts.ok
      refine ⟨fun ds' M' => ∃ (Sg' : Tab) (lf : List PyData) (a b c d e : Option Ds), ds' = [some (.adr p), some (.dat (tabD S)), some (.adr fp), some (.dat (.list lf)), a, b, c, d, e] ∧ TS p M M' m4 n fp qs Sg' ∧ (lf.length ≤ 6 → lf = (leftF Sg' m4 n).map spD) ∧ 2 * onesN Sg' m4 n + (if 6 < lf.length then 1 else 0) < μ ∧ Src M' p (N + (60 - μ) + 1), ?_, ?_⟩
      · rintro ds2 M3 ⟨Sg', lf', a, b, c, d, e, h1, h2, h3, h4, h5⟩
        exact ⟨_, h4, Sg', lf', a, b, c, d, e, h1, h2, h3, rfl, h5.mono (by omega)⟩
      · refine xs_seq <| xs_set <| xp_call <| xa_cons <| xp_var rfl <| xa_nil ⟨fp, qs, Sg, m4, n, ts.tab, ts.rect, hO, rfl, ?_⟩
        refine xs_seq <| xs_set <| xp_lst <| xa_nil ⟨[], rfl, Nat.zero_le _, ?_⟩
        generalize hjs : (jrun (ent Sg) m4 n (spotsOf m4 n)).js = js
        have hjsl : js.length ≤ 100000 := by
          have := jjs_le (ent Sg) (spotsOf m4 n) (jbeg m4 n)
          rw [spots_len] at this
          have b3 : m4 * n ≤ 5 * 5 := Nat.mul_le_mul (by omega) nr5
          have b4 : (jbeg m4 n).js.length = 0 := rfl
          rw [← hjs]
          unfold jrun
          omega
        have pred := fun s : Spot => decide (ent Sg s.1 s.2 = 1 ∧ s ∉ js)
        have hql : (qs.map Ds.adr).length = m4 := by rw [List.length_map, ts.tab.len, ts.rect.len]
        refine xs_seq <| xs_for <| xi_enumM <| xa_cons <| xp_var rfl <| xa_nil ⟨fp, _, rfl, ts.tab.top, [5, 6], fun i ds' M' => ∃ (b c d e : Option Ds), ds' = [some (.adr p), some (.dat (tabD S)), some (.adr fp), some (.dat (.list (((spotsOf i n).filter fun s => decide (ent Sg s.1 s.2 = 1 ∧ s ∉ js)).map spD))), some (.dat (.list (js.map spD))), b, c, d, e] ∧ Sub M2 M', ?_, ?_, ?_, ?_⟩
        · exact ⟨_, _, _, _, rfl, Sub.refl _⟩
        · rintro i ds' M' _ ⟨b, c, d, e, rfl, sub⟩
          exact (ts.tab.sub sub).top
        · rintro i x ds' M' M3 hi ⟨b, c, d, e, rfl, sub⟩ ⟨y, t, hy, ht, rfl, rfl⟩
          rw [hql] at hi
          have hrow := ts.rect.rowAt hi
          obtain ⟨q, hq, hqm⟩ := ts.tab.at hrow
          rw [List.getElem?_map, hq] at hy
          cases hy
          have sub3 := sub.new (o := .tup [.dat (.int (i : Nat)), .adr q]) (sub.none ht)
          refine xg_tupM MH.up_same rfl <| xgs_cons <| xg_name (by decide) <| xgs_cons <| xg_name (by decide) <| xgs_nil ?_
          have hq3 := sub3 q _ hqm
          generalize M'.up t (.tup [.dat (.int (i : Nat)), .adr q]) = M3 at sub3 hq3
          refine xs_set <| xp_op <| xp_var rfl ?_
          refine xp_lcW (Gd0 := fun M' => M' q = some (rowM (rowAt Sg n i))) (l := (rowAt Sg n i).zipIdx) (enc := fun z => .tuple [.int (z.2 : Nat), .int z.1]) (fun z => if z.1 = 1 ∧ (i, z.2) ∉ js then some (spD (i, z.2)) else none) ?_ hq3 ?_ ?_ ?_
          · rw [← enumD_map PyData.int]
            exact xw_enumM (xa_cons <| xp_var rfl <| xa_nil ⟨rfl, rfl⟩) hq3
          · rw [List.length_zipIdx, rowAt_len]; omega
          · rintro j ⟨v, j'⟩ hj
            refine xg_tup rfl <| xgs_cons <| xg_name (by decide) <| xgs_cons <| xg_name (by decide) <| xgs_nil ⟨rfl, ?_⟩
            refine xt_and <| xt_tst <| xp_op <| xp_var rfl <| xp_int <| xo_eqD (.dat _) (.dat _) (shD.int _ _) (shD.int _ _) ⟨_, rfl, fun hb => ?_, fun hb => ⟨rfl, ?_, fun z => by cases z⟩⟩
            · rw [eqv_int] at hb
              have hv := of_decide_eq_true hb
              refine xt_tst <| xp_op <| xp_tup <| xa_cons <| xp_var rfl <| xa_cons <| xp_var rfl <| xa_nil ⟨[_, _], rfl, (show 2 ≤ 100000 by decide), xp_var rfl <| xo_niD (.dat _) (.dat _) (shD.mono (shD_sp (i, j')) (by decide)) (shD_sps _) ⟨_, rfl, rfl, ?_, fun hb2 => ?_⟩⟩
              · rw [show PyData.tuple [.int (i : Nat), .int (j' : Nat)] = spD (i, j') from rfl, any_sp]
                by_cases z : (i, j') ∈ js
                · rw [decide_eq_true z, if_neg fun h => h.2 z]; rfl
                · rw [decide_eq_false z, if_pos ⟨hv, z⟩]; rfl
              · rw [show PyData.tuple [.int (i : Nat), .int (j' : Nat)] = spD (i, j') from rfl, any_sp] at hb2
                have z : (i, j') ∉ js := fun z => by rw [decide_eq_true z] at hb2; cases hb2
                exact xp_tup <| xa_cons <| xp_var rfl <| xa_cons <| xp_var rfl <| xa_nil ⟨[_, _], rfl, (show 2 ≤ 100000 by decide), rfl, _, if_pos ⟨hv, z⟩, rfl⟩
            · rw [eqv_int] at hb
              have hv : v ≠ 1 := fun z => by rw [decide_eq_true z] at hb; cases hb
              rw [if_neg fun h => hv h.1]; rfl
          · have ef : (rowAt Sg n i).zipIdx.filterMap (fun z : Int × Nat => if z.1 = 1 ∧ (i, z.2) ∉ js then some (spD (i, z.2)) else none) = (((rowSpots n i).filter fun s => decide (ent Sg s.1 s.2 = 1 ∧ s ∉ js)).map spD) := by
              rw [filterMap_if (fun z : Int × Nat => z.1 = 1 ∧ (i, z.2) ∉ js) (fun z => spD (i, z.2)), zipIdx_row, List.filter_map, List.map_map, rowSpots, List.filter_map, List.map_map]
              rfl
            rw [ef]
            refine xo_cat ?_ ?_
            · rw [List.length_map, List.length_map]
              have c1 := List.length_filter_le (fun s => decide (ent Sg s.1 s.2 = 1 ∧ s ∉ js)) (spotsOf i n)
              have c2 := List.length_filter_le (fun s => decide (ent Sg s.1 s.2 = 1 ∧ s ∉ js)) (rowSpots n i)
              rw [spots_len] at c1
              have c3 : i * n ≤ 5 * 5 := Nat.mul_le_mul (by omega) nr5
              have c4 : (rowSpots n i).length = n := by unfold rowSpots; rw [List.length_map, List.length_range]
              omega
            · rw [← List.map_append, ← List.filter_append, show spotsOf i n ++ rowSpots n i = spotsOf (i + 1) n by unfold spotsOf; rw [List.range_succ, List.flatMap_append, List.flatMap_singleton]]
              exact ⟨_, _, _, _, rfl, sub3⟩
        · rintro ds' M3 ⟨b, c, d, e, rfl, sub⟩
          rw [hql]
          have eL : (spotsOf m4 n).filter (fun s => decide (ent Sg s.1 s.2 = 1 ∧ s ∉ js)) = leftF Sg m4 n := by rw [leftF_eq, hjs]
          rw [eL]
          have ts3 := ts.more sub.p hsp
          have s3 : Src M3 p (N + (60 - μ)) := by
            obtain ⟨a, b, c, e, r⟩ := s2
            exact ⟨a, b, c, sub p _ e, r⟩
          have hleft25 : (leftF Sg m4 n).length ≤ 25 := by
            rw [← eL]
            refine Nat.le_trans (List.length_filter_le _ _) ?_
            rw [spots_len]
            exact (Nat.mul_le_mul (show m4 ≤ 5 by omega) nr5 : m4 * n ≤ 5 * 5)
          refine xs_if <| xt_tst <| xp_op <| xp_cb <| xa_cons <| xp_var rfl <| xa_nil <| xc_len (.dat _) <| xp_int <| xo_b0 ⟨_, rfl, fun hg6 => ?_, fun hl6 => ?_⟩
          · have hg6 := of_decide_eq_true hg6
            rw [List.length_map] at hg6
            refine xs_seq <| xs_asg (vs := [5, 7]) <| xp_call <| xa_cons <| xp_var rfl <| xa_cons <| xp_var rfl <| xa_nil ⟨p, N + (60 - μ), (leftF Sg m4 n).map spD, ?_, by rw [List.length_map]; omega, by omega, s3, rfl, fun dd M4 hdd s4 sub4 => ?_⟩
            · intro z
              have := congrArg List.length z
              rw [List.length_map] at this
              simp at this
              rw [this] at hg6
              simp at hg6
            · obtain ⟨sp, hsp', rfl⟩ := List.mem_map.mp hdd
              have ts4 := ts3.more sub4 hsp
              have hmem := hsp'
              rw [leftF_eq] at hmem
              obtain ⟨hi, hj⟩ := mem_spots.mp (List.mem_filter.mp hmem).1
              obtain ⟨rr, hr, hv, hjr⟩ := ent_of ts4.rect hi hj
              obtain ⟨q, hq, hqm⟩ := ts4.tab.at hr
              have hqmem := List.mem_of_getElem? hq
              obtain ⟨hP, hE⟩ := ent_put ts4.rect hi hj 0
              have hq0 := ts4.nq q hqmem
              refine xg_tup rfl <| xgs_cons <| xg_name (by decide) <| xgs_cons <| xg_name (by decide) <| xgs_nil ?_
              refine xs_asg (vs := []) <| xp_int <| xg_setL <| xp_op <| xp_var rfl <| xp_var rfl <| xo_ixM (x := .adr q) ts4.tab.top (at_nat (by rw [List.getElem?_map, hq]; rfl)) <| xp_var rfl ⟨q, _, sp.2, rfl, rfl, hqm, by rw [List.length_map, List.length_map]; exact hjr, put2 Sg sp.1 sp.2 0, (leftF Sg m4 n).map spD, _, _, _, _, _, rfl, ⟨ts4.sub.new hq0, ts4.nf, ts4.nq, ts4.tab.put (j := sp.2) 0 hq hr, hP, fun a b => ?_⟩, fun h => ?_, ?_, s4.up (src.ne hq0)⟩
              · rw [hE]
                split
                · exact .inl rfl
                · exact ts4.ok a b
              · rw [List.length_map] at h; omega
              · have := ones_less ts4.rect hsp'
                rw [if_pos (by rw [List.length_map]; omega)]
                omega
          · have hl6 := of_decide_eq_false hl6
            rw [List.length_map] at hl6
            refine xs_nil ⟨Sg, _, _, _, _, _, _, rfl, ts3, fun _ => rfl, ?_, s3.mono (by omega)⟩
            rw [if_neg (by rw [List.length_map]; omega)]
            omega
    · have hle := of_decide_eq_false hle
      have elf := hlf (by omega)
      obtain ⟨Mx, hMx⟩ : ∃ Mx : MH, ∀ b, Mx b = if b = fp ∨ b ∈ qs then none else M2 b := ⟨_, fun _ => rfl⟩
      have keep : ∀ b o, Mx b = some o → M2 b = some o ∧ b ≠ fp ∧ b ∉ qs := fun b o z => by
        rw [hMx] at z
        by_cases q : b = fp ∨ b ∈ qs
        · rw [if_pos q] at z; cases z
        · rw [if_neg q] at z
          exact ⟨z, fun e => q (.inl e), fun e => q (.inr e)⟩
      refine xs_ret <| xp_tup <| xa_cons <| xp_frzT <| xp_var rfl ⟨fp, qs, Sg, Mx, rfl, ts.tab, keep, xa_cons <| xp_var rfl <| xa_nil ⟨[tabD Sg, .list lf], rfl, (show 2 ≤ 100000 by decide), ?_⟩⟩
      rw [elf]
      refine k Sg m4 n Mx ts.rect hm44 (ones_of_ent ts.rect ts.ok) ?_ fun b o hb eo => ?_
      · have := congrArg List.length elf
        rw [List.length_map] at this
        omega
      · rw [hMx, if_neg fun q => ?_]
        · exact ts.sub b o hb eo
        · rcases q with q | q
          · rw [q, ts.nf] at eo; cases eo
          · rw [ts.nq b q] at eo; cases eo
end
end K62
end
section
set_option Elab.async false
set_option linter.all false
set_option maxRecDepth 100000
set_option maxHeartbeats 4000000
set_option autoImplicit false
namespace K62
open PySem L2
/-! ### families of tables that change -/
abbrev addrs (ts : List (Addr × List Addr)) : List Addr := ts.flatMap fun t => t.1 :: t.2
structure FamQ (M : MH) (ts : List (Addr × List Addr)) (Ss : List Tab) : Prop where
  len : ts.length = Ss.length
  tab : ∀ (i : Nat) (t : Addr × List Addr) (S : Tab), ts[i]? = some t → Ss[i]? = some S → TabQ M t.1 t.2 S
  nd : (addrs ts).Nodup
theorem FamQ.inM {M : MH} {ts : List (Addr × List Addr)} {Ss : List Tab} (h : FamQ M ts Ss) {b : Addr} (hb : b ∈ addrs ts) : M b ≠ none := by
  obtain ⟨t, ht, hb⟩ := List.mem_flatMap.mp hb
  obtain ⟨i, hi⟩ := List.mem_iff_getElem?.mp ht
  have hl : i < Ss.length := by rw [← h.len]; exact (List.getElem?_eq_some_iff.mp hi).1
  refine (h.tab i t _ hi (List.getElem?_eq_getElem hl)).inM ?_
  rcases List.mem_cons.mp hb with rfl | hb
  · exact .inl rfl
  · exact .inr hb
theorem FamQ.frame {M M' : MH} {ts : List (Addr × List Addr)} {Ss : List Tab} (h : FamQ M ts Ss) (e : ∀ b ∈ addrs ts, M' b = M b) : FamQ M' ts Ss :=
  ⟨h.len, fun i t S ht hS => (h.tab i t S ht hS).frame fun b hb => e b (List.mem_flatMap.mpr ⟨t, List.mem_of_getElem? ht, by
    rcases hb with rfl | hb
    · exact List.mem_cons_self ..
    · exact List.mem_cons_of_mem _ hb⟩), h.nd⟩
theorem FamQ.sub {M M' : MH} {ts : List (Addr × List Addr)} {Ss : List Tab} (h : FamQ M ts Ss) (e : Sub M M') : FamQ M' ts Ss := h.frame fun b hb => by
  cases q : M b with
  | none => exact absurd q (h.inM hb)
  | some o => exact e b o q
theorem freeze_fam {K : PySem.W.Frag} {H : Hp} : ∀ (ts : List (Addr × List Addr)) (Ss : List Tab) {M : MH} {G : Hp}, Inn K G M H → FamQ M ts Ss → ∃ M' G', Stp K M G H M' G' H ∧ (∀ b, b ∉ addrs ts → M' b = M b) ∧ DaAll G' (ts.map fun t => V.ref t.1) (Ss.map tabD)
  | [], [], M, G, I, _ => ⟨M, G, .refl I, fun _ _ => rfl, .nil⟩
  | [], _ :: _, _, _, _, h => by cases h.len
  | _ :: _, [], _, _, _, h => by cases h.len
  | t :: ts, S :: Ss, M, G, I, h => by
    have h0 := h.tab 0 t S rfl rfl
    have nd : (t.1 :: t.2 ++ addrs ts).Nodup := h.nd
    obtain ⟨n1, n2, n3⟩ := List.nodup_append.mp nd
    obtain ⟨M0, hM0⟩ : ∃ M0 : MH, ∀ b, M0 b = if b = t.1 ∨ b ∈ t.2 then none else M b := ⟨_, fun _ => rfl⟩
    obtain ⟨G1, s1, d1⟩ := Stp.freezeT (M0 := M0) I h0 fun b o e => by
      rw [hM0] at e
      by_cases q : b = t.1 ∨ b ∈ t.2
      · rw [if_pos q] at e; cases e
      · rw [if_neg q] at e
        exact ⟨e, fun z => q (.inl z), fun z => q (.inr z)⟩
    have away : ∀ b ∈ addrs ts, M0 b = M b := fun b hb => by
      rw [hM0, if_neg fun q => ?_]
      refine n3 b ?_ b hb rfl
      rcases q with rfl | q
      · exact List.mem_cons_self ..
      · exact List.mem_cons_of_mem _ q
    have h1 : FamQ M0 ts Ss := FamQ.frame (M := M) ⟨by simpa using h.len, fun i t' S' ht hS => h.tab (i + 1) t' S' (by simpa using ht) (by simpa using hS), n2⟩ away
    obtain ⟨M2, G2, s2, e2, d2⟩ := freeze_fam ts Ss s1.inn h1
    refine ⟨M2, G2, s1.trans s2, fun b hb => ?_, .cons (d1.mono s2.gg) d2⟩
    have hb : b ∉ t.1 :: t.2 ++ addrs ts := hb
    rw [e2 b fun z => hb (List.mem_append_right _ z), hM0, if_neg fun q => ?_]
    refine hb (List.mem_append_left _ ?_)
    rcases q with rfl | q
    · exact List.mem_cons_self ..
    · exact List.mem_cons_of_mem _ q
theorem refs_fam {K : PySem.W.Frag} {G : Hp} : ∀ {ts : List (Addr × List Addr)} {vs : List V}, DvAll K G vs (ts.map fun t => Ds.adr t.1) → vs = ts.map fun t => V.ref t.1
  | [], _, .nil => rfl
  | t :: ts, _, .cons h hs => by cases h; rw [refs_fam hs]; rfl
theorem xp_frzF {K : PySem.W.Frag} {te : TE} {ds : DS} {M : MH} {Φ : Ds → MH → Prop} (h : Xp K te ds M fun x M1 => ∃ z ts Ss M0, x = .adr z ∧ M1 z = some (.lst (ts.map fun t => .adr t.1)) ∧ z ∉ addrs ts ∧ FamQ M1 ts Ss ∧ (∀ b o, M0 b = some o → M1 b = some o ∧ b ≠ z ∧ b ∉ addrs ts) ∧ Φ (.dat (.list (Ss.map tabD))) M0) : Xp K te ds M Φ := fun σ G H sd I Q q =>
  h σ G H sd I _ fun u x M1 G1 H1 s1 d1 ⟨z, ts, Ss, M0, e, hz, hn, hF, h0, k⟩ => by
    subst e
    cases d1
    obtain ⟨M2, G2, s2, e2, d2⟩ := freeze_fam (G := G1) ts Ss s1.inn hF
    have hz2 : M2 z = some (.lst (ts.map fun t => .adr t.1)) := by rw [e2 z hn]; exact hz
    obtain ⟨_, o, eo, m⟩ := s2.inn.ob z _ hz2
    obtain ⟨vs, rfl, hv⟩ := m.lst
    obtain rfl := refs_fam hv
    have s3 := Stp.put (K := K) (G := G2) (H := H1) s2.inn hz2 (o := .lst (ts.map fun t => V.ref t.1)) (m := .lst (dats (Ss.map tabD))) (DaAll.dv d2)
    have eH : upd H1 z (.lst (ts.map fun t => V.ref t.1)) = H1 := by
      funext b
      by_cases q : b = z
      · subst q; rw [upd_same, eo]
      · rw [upd_ne q]
    rw [eH] at s3
    obtain ⟨G4, s4, d4⟩ := Stp.freeze s3.inn (p := z) (ds := Ss.map tabD) MH.up_same
    refine q _ (.dat (.list (Ss.map tabD))) M0 G4 H1 (((s1.trans s2).trans (s3.trans s4)).trans (.sub s4.inn fun b o e => ?_)) d4 k
    obtain ⟨h1, h2, h3⟩ := h0 b o e
    rw [MH.del_ne h2, MH.up_ne h2, e2 b h3]
    exact h1
theorem flat_apart {ts : List (Addr × List Addr)} (h : (addrs ts).Nodup) {i j : Nat} {t t' : Addr × List Addr} {b : Addr} (hi : ts[i]? = some t) (hj : ts[j]? = some t') (h1 : b ∈ t.1 :: t.2) (h2 : b ∈ t'.1 :: t'.2) : i = j := by
  induction ts generalizing i j with
  | nil => cases hi
  | cons a ts ih =>
    have h : (a.1 :: a.2 ++ addrs ts).Nodup := h
    obtain ⟨n1, n2, n3⟩ := List.nodup_append.mp h
    have mem : ∀ {k : Nat} {t : Addr × List Addr}, ts[k]? = some t → b ∈ t.1 :: t.2 → b ∈ addrs ts := fun hk hb => List.mem_flatMap.mpr ⟨_, List.mem_of_getElem? hk, hb⟩
    cases i with
    | zero =>
      cases j with
      | zero => rfl
      | succ j =>
        cases hi
        exact absurd rfl (n3 b h1 b (mem (by simpa using hj) h2))
    | succ i =>
      cases j with
      | zero =>
        cases hj
        exact absurd rfl (n3 b h2 b (mem (by simpa using hi) h1))
      | succ j => exact congrArg (· + 1) (ih n2 (show ts[i]? = some t from hi) (show ts[j]? = some t' from hj))
/-- a new family -/
theorem xp_fam {K : PySem.W.Frag} {ds : DS} {M : MH} {Φ : Ds → MH → Prop} {wi : TI} {g : TG} {te : TE} {vs : List Nat} {l : List Tab} (h1 : XiD K wi ds M (l.map tabD)) (hl : l.length < 100000)
    (h : ∀ (i : Nat) (S : Tab) (M' : MH), l[i]? = some S → Sub M M' → Xg K g vs (.dat (tabD S)) (wipeD ds vs) M' fun ds2 M3 => M3 = M' ∧ Xp K te ds2 M' fun y M5 => ∃ p qs, y = .adr p ∧ M' p = none ∧ (∀ q ∈ qs, M' q = none) ∧ Sub M' M5 ∧ TabQ M5 p qs S)
    (k : ∀ z ts M', Sub M M' → M z = none → FamQ M' ts l → (∀ b ∈ addrs ts, M b = none) → M' z = some (.lst (ts.map fun t => .adr t.1)) → z ∉ addrs ts → Φ (.adr z) M') : Xp K (tLc wi g tYes te vs) ds M Φ := by
  refine xp_lc fun σ G H sd I R q => h1 σ G H sd I R fun J n Gd Y M' G' H' s wk ⟨em, en, eg, hy⟩ => q J n Gd Y M' G' H' s wk ?_
  subst em en
  refine ⟨fun i acc M2 => ∃ ts : List (Addr × List Addr), acc = (ts.map fun t => Ds.adr t.1) ∧ FamQ M2 ts (l.take i) ∧ Sub M' M2 ∧ ∀ b ∈ addrs ts, M' b = none, ⟨[], rfl, ⟨rfl, fun i t S h => by (cases h), .nil⟩, .refl _, fun b h => by cases h⟩, fun _ _ M2 _ _ => eg M2 trivial, fun i acc M2 hi ⟨ts, e, f, _⟩ => ?_, fun i x acc M2 M3 hi ⟨ts, e1, f, sub, fr⟩ y => ?_, fun acc M2 ⟨ts, e1, f, sub, fr⟩ => .inr fun z hz => ?_⟩
  · rw [e, List.length_map, f.len, List.length_take]; omega
  · obtain ⟨em, d, hd, ex⟩ := hy i x M2 M3 y
    obtain ⟨S, ha, rfl⟩ := map_inv hd
    subst em ex e1
    intro σ G H v sd I dv Q q
    refine h i S M3 ha sub σ G H v sd I dv Q fun σ' ds' M4 G' H' ag sd' s' ⟨em, ht⟩ => q σ' ds' M4 G' H' ag sd' s' ?_
    subst em
    refine xt_yes ⟨fun _ => xp_mono ht fun y M5 ⟨p, qs, ey, hp, hq, sub5, hT⟩ => ?_, fun h => by cases h⟩
    subst ey
    have hlen : ts.length = i := by
      have hil := (List.getElem?_eq_some_iff.mp ha).1
      rw [f.len, List.length_take]; omega
    refine ⟨ts ++ [(p, qs)], by rw [List.map_append]; rfl, ⟨?_, fun j t S' hj hS' => ?_, ?_⟩, sub.trans sub5, fun b hb => ?_⟩
    · rw [List.length_append, f.len, List.take_add_one, ha, List.length_append]; rfl
    · rw [List.take_add_one, ha] at hS'
      by_cases hjl : j < ts.length
      · rw [List.getElem?_append_left hjl] at hj
        rw [List.getElem?_append_left (by rw [← f.len]; exact hjl)] at hS'
        exact (f.tab j t S' hj hS').sub sub5
      · rw [List.getElem?_append_right (by omega)] at hj
        rw [List.getElem?_append_right (by rw [← f.len]; omega)] at hS'
        obtain rfl := List.mem_singleton.mp (List.mem_of_getElem? hj)
        obtain rfl : S' = S := by simpa using List.mem_of_getElem? hS'
        exact hT
    · rw [show addrs (ts ++ [(p, qs)]) = addrs ts ++ (p :: qs) by unfold addrs; rw [List.flatMap_append]; simp]
      refine List.nodup_append.mpr ⟨f.nd, List.nodup_cons.mpr ⟨hT.ne, hT.nd⟩, fun a ha' b hb e => ?_⟩
      subst e
      have := f.inM ha'
      rcases List.mem_cons.mp hb with rfl | hb
      · exact this hp
      · exact this (hq a hb)
    · rw [show addrs (ts ++ [(p, qs)]) = addrs ts ++ (p :: qs) by unfold addrs; rw [List.flatMap_append]; simp] at hb
      rcases List.mem_append.mp hb with hb | hb
      · exact fr b hb
      · rcases List.mem_cons.mp hb with rfl | hb
        · exact sub.none hp
        · exact sub.none (hq b hb)
  · subst e1
    rw [List.length_map, List.take_length] at f
    have hz0 := sub.none hz
    exact k z ts _ (sub.new hz0) hz0 (f.sub (.up hz)) fr MH.up_same fun hm => f.inM hm hz
def signsN (S : Tab) (left : List Spot) : List Tab := left.foldl (fun acc s => acc ++ acc.map fun T => put2 T s.1 s.2 (-1)) [S]
theorem signs_len (S : Tab) (left : List Spot) : (signsN S left).length = 2 ^ left.length := by
  have go : ∀ (left : List Spot) (acc : List Tab), (left.foldl (fun acc s => acc ++ acc.map fun T => put2 T s.1 s.2 (-1)) acc).length = acc.length * 2 ^ left.length := by
    intro left
    induction left with
    | nil => intro acc; simp
    | cons x left ih =>
      intro acc
      rw [List.foldl_cons, ih, List.length_append, List.length_map, List.length_cons, Nat.pow_succ, ← Nat.mul_two, Nat.mul_assoc, Nat.mul_comm 2]
  unfold signsN
  rw [go]; simp
theorem signs_rect {S : Tab} {m n : Nat} (h : Rect S m n) : ∀ (left : List Spot), (∀ s ∈ left, s.1 < m ∧ s.2 < n) → ∀ T ∈ signsN S left, Rect T m n := by
  have go : ∀ (left : List Spot) (acc : List Tab), (∀ s ∈ left, s.1 < m ∧ s.2 < n) → (∀ T ∈ acc, Rect T m n) → ∀ T ∈ left.foldl (fun acc s => acc ++ acc.map fun T => put2 T s.1 s.2 (-1)) acc, Rect T m n := by
    intro left
    induction left with
    | nil => intro acc _ h; exact h
    | cons s left ih =>
      intro acc hl hacc
      rw [List.foldl_cons]
      refine ih _ (fun x hx => hl x (List.mem_cons_of_mem _ hx)) fun T hT => ?_
      rcases List.mem_append.mp hT with hT | hT
      · exact hacc T hT
      · obtain ⟨T0, h0, rfl⟩ := List.mem_map.mp hT
        obtain ⟨hi, hj⟩ := hl s (List.mem_cons_self ..)
        exact (ent_put (hacc T0 h0) hi hj (-1)).1
  exact fun left hl => go left [S] hl fun T hT => by obtain rfl := List.mem_singleton.mp hT; exact h
section
variable {P : Program} {w : World} {K : PySem.W.Frag} {mg : Str → Option Value} {base : Heap}
def p_signings : SpP := fun xs M Φ => ∃ (S : Tab) (m n : Nat) (left : List Spot), Rect S m n ∧ left.length ≤ 6 ∧ (∀ s ∈ left, s.1 < m ∧ s.2 < n) ∧ xs = [.dat (tabD S), .dat (.list (left.map spD))] ∧ Φ (.dat (.list ((signsN S left).map tabD))) M
theorem ok_law_signings (T : Txt w K mg) : FnOk P w K mg base CX0 1 T.d_law_signings.f T.d_law_signings.fd ["_law_table", "_law_left"] (spE K p_signings) := by
  refine fn_ok T.d_law_signings.F sc_law_signings (fun xs M Φ ⟨_, _, _, _, _, _, _, h, _⟩ => by rw [h]; rfl) fun cdv A outer s H E hr => ?_
  have nd := sc_law_signings.nd
  refine ⟨_, (pss_cons (ps_set (i := 2) nd rfl (Or.inl rfl) (pe_lst (pa_cons (pe_lc (own := [("_law_row", 7)]) rfl nd (kiL (K := K) rfl (pi_list (pv 0))) (blkOk_by (by kernel_rfl)) (fun _ _ _ _ _ => (pg_name (i := 7) nd rfl (Or.inl rfl))) (fun _ _ _ _ _ => pts_nil) (fun _ _ _ _ _ => (pe_callTy (k_list (K := K) rfl) (by rfl) T.z_list (by decide +kernel) (pa_cons (pv 7) pa_nil)))) pa_nil)))
      (pss_cons (ps_for PassesOwn.never rfl (kiL (K := K) rfl (pi_list (pv 1))) (kgT (K := K) rfl (pg_tup (n := 2) rfl (pgs_cons (pg_name (i := 3) nd rfl (Or.inl rfl)) (pgs_cons (pg_name (i := 4) nd rfl (Or.inl rfl)) pgs_nil)))) (pss_cons (ps_setLc (i := 5) (own := [("_law_one_here", 6)]) rfl nd rfl rfl (sw_true rfl rfl rfl (by decide +kernel)) (kiL (K := K) rfl (pi_list (pv 2))) (blkOk_by (by kernel_rfl)) (fun _ _ _ _ _ => (pg_name (i := 6) nd rfl (Or.inl rfl))) (fun _ _ _ _ _ => pts_nil) (fun _ _ _ _ _ => (pe_lc (own := [("_law_row", 7)]) rfl nd (kiL (K := K) rfl (pi_list (pv 6))) (blkOk_by (by kernel_rfl)) (fun _ _ _ _ _ => (pg_name (i := 7) nd rfl (Or.inl rfl))) (fun _ _ _ _ _ => pts_nil) (fun _ _ _ _ _ => (pe_callTy (k_list (K := K) rfl) (by rfl) T.z_list (by decide +kernel) (pa_cons (pv 7) pa_nil))))))
      (pss_cons (ps_for PassesOwn.never rfl (kiL (K := K) rfl (pi_list (pv 5))) (pg_name (i := 6) nd rfl (Or.inl rfl)) (pss_one (ps_asg (pe_un un_neg pe_int) (pg_sub (pe_ix (k_ix (K := K) rfl) (pv 6) (pv 3) (fun _ _ => rfl)) (pv 4) set_list))))
      (pss_one (ps_set (i := 2) nd rfl (Or.inl rfl) (pe_op op_cat (pv 2) (pv 5)))))))
      (pss_one (ps_ret (pv 2))))), ?_⟩
  rintro xs M Φ ⟨S, m, n, left, hS, hl6, hin, rfl, k⟩
  have m5 := hS.m5
  have n5 := hS.n5
  refine xs_pure ?_
  refine xs_seq <| xs_set <| xp_lst <| xa_cons ?_
  refine xp_mapD (l := S) (enc := rowD) (fun r => rowD r) (xd_var rfl) (by rw [hS.len]; omega) (fun i r hr => xg_name (by decide) ⟨rfl, xp_cb <| xa_cons <| xp_var rfl <| xa_nil <| xc_list ⟨rfl, rfl⟩⟩) (xa_nil ⟨[tabD S], rfl, len1, ?_⟩)
  refine xs_seq (xs_forD (l := left) (enc := spD) [3, 4] (fun i ds' M' => ∃ (a b c d e : Option Ds), ds' = [some (.dat (tabD S)), some (.dat (.list (left.map spD))), some (.dat (.list ((signsN S (left.take i)).map tabD))), a, b, c, d, e] ∧ Sub M M') (xd_var rfl) ⟨_, _, _, _, _, rfl, Sub.refl M⟩ ?_ ?_)
  · rintro i ⟨x, y⟩ ds' M' hi ⟨a, b, c, d, e, rfl, sub⟩
    have hil := (List.getElem?_eq_some_iff.mp hi).1
    obtain ⟨hx, hy⟩ := hin _ (List.mem_of_getElem? hi)
    have hlen := signs_len S (left.take i)
    have hp : 2 ^ (left.take i).length ≤ 2 ^ 6 := Nat.pow_le_pow_right (by decide) (by rw [List.length_take]; omega)
    have h64 : (2 : Nat) ^ 6 = 64 := rfl
    have hrect := signs_rect hS (left.take i) fun s hs => hin s (List.mem_of_mem_take hs)
    refine xg_tup rfl <| xgs_cons <| xg_name (by decide) <| xgs_cons <| xg_name (by decide) <| xgs_nil ?_
    refine xs_seq <| xs_set ?_
    refine xp_fam (l := signsN S (left.take i)) (xd_var rfl) (by omega) ?_ fun z ts M2 sub2 hz hF hfr hMz hzn => ?_
    · intro j S' M3 hj sub3
      have hR := hrect S' (List.mem_of_getElem? hj)
      refine xg_name (by decide) ⟨rfl, ?_⟩
      refine xp_mkT (Gd0 := fun _ => True) (l := S') (enc := rowD) (fun r => r) (xd_var rfl) (fun _ _ => trivial) (by rw [hR.len]; have := hR.m5; omega) (fun i r M4 hr sub4 => xg_name (by decide) ⟨rfl, xp_cb <| xa_cons <| xp_var rfl <| xa_nil <| xc_listM fun q hq => ⟨q, rfl, hq, rfl⟩⟩) fun p qs M5 sub5 hp hqs hT => ?_
      rw [List.map_id'] at hT
      exact ⟨p, qs, rfl, hp, hqs, sub5, hT⟩
    · generalize hls : signsN S (left.take i) = ls at hF hlen hrect
      have hsub2 := sub.trans sub2
      refine xs_seq <| xs_for <| xi_listM <| xp_var rfl ⟨z, _, rfl, hMz, [6], fun k ds' M' => ∃ (d e : Option Ds), ds' = [some (.dat (tabD S)), some (.dat (.list (left.map spD))), some (.dat (.list (ls.map tabD))), some (.dat (.int (x : Nat))), some (.dat (.int (y : Nat))), some (.adr z), d, e] ∧ Sub M M' ∧ M' z = some (.lst (ts.map fun t => .adr t.1)) ∧ FamQ M' ts ((ls.take k).map (fun T => put2 T x y (-1)) ++ ls.drop k), ?_, ?_, ?_, ?_⟩
      · exact ⟨_, _, rfl, hsub2, hMz, by simpa using hF⟩
      · rintro k ds' M3 _ ⟨d, e, rfl, sub3, hz3, hF3⟩
        exact hz3
      · rintro k' xx ds' M3 M4 hk ⟨d, e, rfl, sub3, hz3, hF3⟩ ⟨hxx, rfl⟩
        rw [List.length_map] at hk
        obtain ⟨t, ht, rfl⟩ := map_inv hxx
        have hkl : k' < ls.length := by rw [← hF.len]; exact hk
        have hgk : ls[k']? = some ls[k'] := List.getElem?_eq_getElem hkl
        have htake : ((ls.take k').map fun T => put2 T x y (-1)).length = k' := by rw [List.length_map, List.length_take]; omega
        have hSk : ((ls.take k').map (fun T => put2 T x y (-1)) ++ ls.drop k')[k']? = some ls[k'] := by
          rw [List.getElem?_append_right (by omega), htake, Nat.sub_self, List.getElem?_drop]; exact hgk
        have hTk := hF3.tab k' t _ ht hSk
        have hRk := hrect _ (List.mem_of_getElem? hgk)
        obtain ⟨rr, hr, hv, hjr⟩ := ent_of hRk hx hy
        obtain ⟨q, hq, hqm⟩ := hTk.at hr
        have hqmem := List.mem_of_getElem? hq
        have hta : ∀ b, b = t.1 ∨ b ∈ t.2 → b ∈ addrs ts := fun b hb => List.mem_flatMap.mpr ⟨t, List.mem_of_getElem? ht, by
          rcases hb with rfl | hb
          · exact List.mem_cons_self ..
          · exact List.mem_cons_of_mem _ hb⟩
        have hqa := hta q (.inr hqmem)
        have hq0 := hfr q hqa
        refine xg_name (by decide) <| xs_asg (vs := []) <| xp_un <| xp_int <| xu_neg <| xg_setL <| xp_op <| xp_var rfl <| xp_var rfl <| xo_ixM (x := .adr q) hTk.top (at_nat (by rw [List.getElem?_map, hq]; rfl)) <| xp_var rfl ⟨q, _, y, rfl, rfl, hqm, by rw [List.length_map, List.length_map]; exact hjr, _, _, rfl, sub3.new (sub.none hq0), ?_, ?_⟩
        · rw [MH.up_ne fun e => hzn (by rw [e]; exact hqa)]
          exact hz3
        · have hT' := hTk.put (j := y) (-1) hq hr
          have eset : (ls.take (k' + 1)).map (fun T => put2 T x y (-1)) ++ ls.drop (k' + 1) = ((ls.take k').map (fun T => put2 T x y (-1)) ++ ls.drop k').set k' (put2 ls[k'] x y (-1)) := by
            rw [List.set_append, if_neg (by omega), htake, Nat.sub_self, List.drop_eq_getElem_cons hkl, List.set_cons_zero, List.take_add_one, hgk, List.map_append, List.append_assoc]; rfl
          rw [eset]
          refine ⟨by rw [List.length_set]; exact hF3.len, fun j t' S' hj hS' => ?_, hF3.nd⟩
          by_cases hjk : k' = j
          · subst hjk
            rw [ht] at hj
            cases hj
            rw [List.getElem?_set_self (by rw [← hF3.len]; exact hk)] at hS'
            cases hS'
            exact hT'
          · rw [List.getElem?_set_ne hjk] at hS'
            refine (hF3.tab j t' S' hj hS').frame fun b hb => MH.up_ne fun e => hjk ?_
            subst e
            have nd := hF3.nd
            have h1 : b ∈ t.1 :: t.2 := List.mem_cons_of_mem _ hqmem
            have h2 : b ∈ t'.1 :: t'.2 := by
              rcases hb with rfl | hb
              · exact List.mem_cons_self ..
              · exact List.mem_cons_of_mem _ hb
            exact flat_apart nd ht hj h1 h2
      · rintro ds' M3 ⟨d, e, rfl, sub3, hz3, hF3⟩
        rw [List.length_map, hF.len, List.take_length, List.drop_length, List.append_nil] at hF3
        obtain ⟨Mx, hMx⟩ : ∃ Mx : MH, ∀ b, Mx b = if b = z ∨ b ∈ addrs ts then none else M3 b := ⟨_, fun _ => rfl⟩
        refine xs_set <| xp_op <| xp_var rfl <| xp_frzF <| xp_var rfl ⟨z, ts, _, Mx, rfl, hz3, hzn, hF3, fun b o e => ?_, ?_⟩
        · rw [hMx] at e
          by_cases q : b = z ∨ b ∈ addrs ts
          · rw [if_pos q] at e; cases e
          · rw [if_neg q] at e
            exact ⟨e, fun z => q (.inl z), fun z => q (.inr z)⟩
        · refine xo_cat (by simp only [List.length_map]; omega) ?_
          have es : ls.map tabD ++ (ls.map fun T => put2 T x y (-1)).map tabD = (signsN S (left.take (i + 1))).map tabD := by
            rw [List.take_add_one, hi, ← hls, ← List.map_append]
            unfold signsN
            rw [List.foldl_append]; rfl
          rw [es]
          refine ⟨_, _, _, _, _, rfl, fun b o e => ?_⟩
          rw [hMx, if_neg fun q => ?_]
          · exact sub3 b o e
          · rcases q with q | q
            · rw [q, sub.none hz] at e; cases e
            · rw [sub.none (hfr b q)] at e; cases e
  · rintro ds' M' ⟨a, b, c, d, e, rfl, sub⟩
    rw [List.take_length]
    exact xs_ret <| xp_var rfl ⟨sub, k⟩
end
end K62
end
section
set_option Elab.async false
set_option linter.all false
set_option maxRecDepth 100000
set_option maxHeartbeats 4000000
set_option autoImplicit false
namespace K62
open PySem L2
theorem TabM.more {M M' : MH} {P p : Addr} {nm : Str} (h : TabM M P nm) (hp : M p = none) (s : SubP p M M') : TabM M' P nm := by
  obtain ⟨ps, e, t, c⟩ := h
  have ne : ∀ {b : Addr} {o : MO}, M b = some o → b ≠ p := fun e z => by rw [z, hp] at e; cases e
  exact ⟨ps, s P _ (ne e) e, t, fun pos cv hc => let ⟨a, e1, e2⟩ := c pos cv hc; ⟨a, e1, s a _ (ne e2) e2⟩⟩
open Classical in
noncomputable def goodF (F : Tab) (m n : Nat) : List PyData := (signsN F (leftF F m n)).filterMap fun T => if Uni T m n then some (tabD T) else none
/-- what all the signs of a thinned table say -/
def Tried : Prop := ∀ (F S' : Tab) (m n : Nat), Rect F m n → m ≤ 4 → Ones F → Forced F S' m n → (Uni S' m n → goodF F m n = [tabD S']) ∧ (¬ Uni S' m n → goodF F m n = [] ∧ HasPiece (ptsN F m n))
theorem shD_tab2 (T : Tab) : shD 2 (tabD T) := shD.list fun d hd => by
  obtain ⟨r, _, rfl⟩ := List.mem_map.mp hd
  exact shD.nums _ _
theorem leftF_in {S : Tab} {m n : Nat} : ∀ s ∈ leftF S m n, s.1 < m ∧ s.2 < n := fun s hs => by
  rw [leftF_eq] at hs
  exact mem_spots.mp (List.mem_filter.mp hs).1
theorem sgOk : (PyData.str sgS).canLay0 = true := by decide +kernel
theorem svOk : (PyData.str sevS).canLay0 = true := by decide +kernel
theorem tuOk : (PyData.str turS).canLay0 = true := by decide +kernel
section
variable {P : Program} {w : World} {K : PySem.W.Frag} {mg : Str → Option Value} {base : Heap}
def p_law (pF : Addr) : SpP := fun xs M Φ => ∃ ns : List Int, TabM M pF lamN ∧ xs = [.sq ns] ∧ ∀ M', Φ (.dat (.bool true)) M'
theorem ok_law (ht : Tried) (T : Txt w K mg) (tab : LamX.TabB base mg T.cF T.pF) : FnOk P w K mg base CX0 12 T.d_law.f T.d_law.fd ["_law_script"] (spE K (p_law T.pF)) := by
  refine fn_ok T.d_law.F sc_law (fun xs M Φ ⟨_, _, h, _⟩ => by rw [h]; rfl) fun cdv A outer s H E hr => ?_
  have nd := sc_law.nd
  have ok_signed := fun (_ : Txt w K mg) => ok_signed (P := P) T tab
  refine ⟨_, (pss_cons (ps_for PassesOwn.never rfl (kiL (K := K) rfl (pi_list (pe_op op_cat (pe_lst (pa_cons (pe_call (ok_law_cell_at T) (hr.mono (by first | decide | omega)) rfl T.d_law_cell_at.m T.d_law_cell_at.F.kp T.d_law_cell_at.b .nil pass0 (pa_cons (pv 0) (pa_cons pe_int pa_nil))) pa_nil)) (pe_slice (k_sl (K := K) rfl) (pv 0) (po_some pe_int) (po_some pe_int))))) (pg_name (i := 1) nd rfl (Or.inl rfl)) (pss_cons (ps_set (i := 2) nd rfl (Or.inl rfl) (pe_call (ok_law_source_of T) (hr.mono (by first | decide | omega)) rfl T.d_law_source_of.m T.d_law_source_of.F.kp T.d_law_source_of.b .nil pass0 (pa_cons (pv 1) pa_nil)))
      (pss_cons (ps_asg (pe_call (ok_law_thinned T) (hr.mono (by first | decide | omega)) rfl T.d_law_thinned.m T.d_law_thinned.F.kp T.d_law_thinned.b .nil pass0 (pa_cons (pv 2) (pa_cons (pe_call (ok_law_ones T) (hr.mono (by first | decide | omega)) rfl T.d_law_ones.m T.d_law_ones.F.kp T.d_law_ones.b .nil pass0 (pa_cons (pv 2) pa_nil)) pa_nil))) (kgT (K := K) rfl (pg_tup (n := 2) rfl (pgs_cons (pg_name (i := 3) nd rfl (Or.inl rfl)) (pgs_cons (pg_name (i := 4) nd rfl (Or.inl rfl)) pgs_nil)))))
      (pss_cons (ps_setLc (i := 5) (own := [("_law_one_here", 7)]) rfl nd rfl rfl (sw_true rfl rfl rfl (by decide +kernel)) (kiL (K := K) rfl (pi_list (pe_call (ok_law_signings T) (hr.mono (by first | decide | omega)) rfl T.d_law_signings.m T.d_law_signings.F.kp T.d_law_signings.b .nil pass0 (pa_cons (pv 3) (pa_cons (pv 4) pa_nil))))) (blkOk_by (by kernel_rfl)) (fun _ _ _ _ _ => (pg_name (i := 7) nd rfl (Or.inl rfl))) (fun _ _ _ _ _ => (pts_one (pt_val (pe_call (ok_law_unimodular T) (hr.mono (by first | decide | omega)) rfl T.d_law_unimodular.m T.d_law_unimodular.F.kp T.d_law_unimodular.b .nil pass0 (pa_cons (pv 7) pa_nil))))) (fun _ _ _ _ _ => (pv 7)))
      (pss_cons (ps_set (i := 6) nd rfl (Or.inl rfl) (pe_call (ok_signed T) (hr.mono (by first | decide | omega)) rfl T.d_signed.m T.d_signed.F.kp T.d_signed.b .nil pass0 (pa_cons (pv 3) pa_nil)))
      (pss_cons (ps_if (PW.pt (pw_or (pt_cmpR (k_ne (K := K) rfl (u64 hr)) (pe_cmpR (k_eq (K := K) rfl (u64 hr)) (pe_ix (k_ix (K := K) rfl) (pv 6) pe_int (fun _ _ => rfl)) pe_str (nomark _)) (pe_cmpR (k_ne (K := K) rfl (u64 hr)) (pv 5) (pe_lst pa_nil) (nomark _)) (nomark _)) (pw_or1 (pt_cmpR op_gt (pe_callB (k_len (K := K) rfl) (by rfl) T.z_len (by decide +kernel) (pa_cons (pv 5) pa_nil)) pe_int (nomark _))))) (pss_one (ps_ret pe_bl)) pss_nil)
      (pss_one (ps_if (PW.pt (pw_and (pt_cmpR (k_ne (K := K) rfl (u64 hr)) (pv 5) (pe_lst pa_nil) (nomark _)) (pw_and1 (pt_cmpR (k_ne (K := K) rfl (u64 hr)) (pv 6) (pe_tup (pa_cons pe_str (pa_cons (pe_ix (k_ix (K := K) rfl) (pv 5) pe_int (fun _ _ => rfl)) pa_nil))) (nomark _))))) (pss_one (ps_ret pe_bl)) pss_nil))))))))
      (pss_one (ps_ret pe_bl))), ?_⟩
  rintro xs M Φ ⟨ns, hT, rfl, fin⟩
  refine xs_seq (xs_forD (l := ns.getD 0 0 :: cutL ns (some 1) (some 4)) (enc := fun c : Int => .int c) [1] (fun i ds' M' => ∃ (a b c d e f g : Option Ds), ds' = [some (.sq ns), a, b, c, d, e, f, g] ∧ TabM M' T.pF lamN) ?_ ⟨_, _, _, _, _, _, _, rfl, hT⟩ ?_ ?_)
  · refine xd_list <| xp_op <| xp_lst <| xa_cons <| xp_call <| xa_cons <| xp_var rfl <| xa_cons <| xp_int <| xa_nil ⟨ns, 0, rfl, xa_nil ⟨[.int (ns.getD 0 0)], rfl, len1, ?_⟩⟩
    refine xp_slS (.c 1) (.c 4) <| xp_var rfl ⟨ns, rfl, ?_⟩
    obtain ⟨c, e, h1, h2⟩ := cut_mid ns 1 4
    refine xo_cat ?_ ⟨rfl, rfl⟩
    rw [nums, List.length_map, show (1 : Int) = ((1 : Nat) : Int) from rfl, show (4 : Int) = ((4 : Nat) : Int) from rfl, h1, List.length_take]
    have : [PyData.int (ns.getD 0 0)].length = 1 := rfl
    omega
  · rintro i c ds' M' _ ⟨a, b, cc, d, e, f, g, rfl, hT'⟩
    refine xg_name (by decide) <| xs_seq <| xs_set <| xp_call <| xa_cons <| xp_var rfl <| xa_nil ⟨c, rfl, fun p M1 hp sub1 s1 => ?_⟩
    refine xs_seq <| xs_asg (vs := [3, 4]) <| xp_call <| xa_cons <| xp_var rfl <| xa_cons <| xp_call <| xa_cons <| xp_var rfl <| xa_nil ⟨p, 0, by decide, s1, rfl, fun m n es M2 hes s2 sub2 => ?_⟩
    obtain ⟨S, rfl, hS, h01⟩ := hes.tab
    refine xa_nil ⟨p, 0 + 100, S, m, n, by decide, s2, hS, h01, rfl, fun F m' n' M3 hF m4 hF01 hl6 sub3 => ?_⟩
    have hT3 : TabM M3 T.pF lamN := hT'.more hp ((sub1.p.trans sub2).trans sub3)
    refine xg_tup rfl <| xgs_cons <| xg_name (by decide) <| xgs_cons <| xg_name (by decide) <| xgs_nil ?_
    have hin : ∀ s ∈ leftF F m' n', s.1 < m' ∧ s.2 < n' := leftF_in
    have hrect := signs_rect hF _ hin
    have hlen := signs_len F (leftF F m' n')
    have hp6 : 2 ^ (leftF F m' n').length ≤ 2 ^ 6 := Nat.pow_le_pow_right (by decide) hl6
    have h64 : (2 : Nat) ^ 6 = 64 := rfl
    refine xs_seq <| xs_set ?_
    classical
    refine xp_lcD (l := signsN F (leftF F m' n')) (enc := tabD) (fun T => if Uni T m' n' then some (tabD T) else none) (xd_list <| xp_call <| xa_cons <| xp_var rfl <| xa_cons <| xp_var rfl <| xa_nil ⟨F, m', n', _, hF, hl6, hin, rfl, rfl, rfl⟩) (by omega) ?_ ?_
    · intro j T' hj
      have hR := hrect T' (List.mem_of_getElem? hj)
      refine xg_name (by decide) ⟨rfl, xt_tst <| xp_call <| xa_cons <| xp_var rfl <| xa_nil ⟨T', m', n', hR, rfl, fun b hb => ⟨b, rfl, rfl, ?_, fun hb' => xp_var rfl ⟨rfl, tabD T', if_pos (hb.mp hb'), rfl⟩⟩⟩⟩
      by_cases hu : Uni T' m' n'
      · rw [hb.mpr hu, if_pos hu]; rfl
      · rw [if_neg hu]
        cases b with
        | false => rfl
        | true => exact absurd (hb.mp rfl) hu
    · have eg : ((signsN F (leftF F m' n')).filterMap fun T => if Uni T m' n' then some (tabD T) else none) = goodF F m' n' := by
        unfold goodF
        congr 1
      rw [eg]
      refine xs_seq <| xs_set <| xp_call <| xa_cons <| xp_var rfl <| xa_nil ⟨F, m', n', hF, m4, hF01, hT3, rfl, fun F' M4 hF' hT4 sub4 dd hd1 hd2 => ?_⟩
      obtain ⟨ht1, ht2⟩ := ht F F' m' n' hF m4 hF01 hF'
      by_cases hu : Uni F' m' n'
      · rw [hd1 hu, ht1 hu]
        have s0 : shD 64 (PyData.str sgS) := shD.str _ sgOk
        have s1 : shD 64 (.tuple [.str sgS, tabD F']) := shD.mono (k := 2 + 1) (shD.tup fun d hd => by
          rcases List.mem_cons.mp hd with rfl | hd
          · exact shD.str _ sgOk
          · obtain rfl := List.mem_singleton.mp hd
            exact shD_tab2 _) (by decide)
        have s2 : shD 64 (.list [tabD F']) := shD.mono (k := 2 + 1) (shD.list fun d hd => by
          obtain rfl := List.mem_singleton.mp hd
          exact shD_tab2 _) (by decide)
        have s3 : shD 64 (.list []) := shD.mono (shD.nil 0) (by decide)
        have e1 : PyData.eqv (.str sgS) (.str (Str.ofString "signed")) = true := rfl
        have e2 : PyData.eqv (.list [tabD F']) (.list []) = false := rfl
        refine xs_seq <| xs_if <| xt_or <| xt_tst <| xp_op <| xp_op <| xp_op <| xp_var rfl <| xp_int <| xo_ixT (at_nat (j := 0) rfl) <| xp_str <| xo_eqD (.dat _) (.dat _) s0 s0 <| xp_op <| xp_var rfl <| xp_lst <| xa_nil ⟨[], rfl, Nat.zero_le _, xo_neD (.dat _) (.dat _) s2 s3 <| xo_neD (.dat _) (.dat _) (shD.bool _ _) (shD.bool _ _) ⟨_, rfl, fun h => ?_, fun _ => ?_⟩⟩
        · rw [e1, e2] at h; cases h
        · refine xt_tst <| xp_op <| xp_cb <| xa_cons <| xp_var rfl <| xa_nil <| xc_len (.dat _) <| xp_int <| xo_b0 ⟨_, rfl, fun h => (by cases h), fun _ => xs_nil ?_⟩
          refine xs_if <| xt_and <| xt_tst <| xp_op <| xp_var rfl <| xp_lst <| xa_nil ⟨[], rfl, Nat.zero_le _, xo_neD (.dat _) (.dat _) s2 s3 ⟨_, rfl, fun _ => ?_, fun h => (by rw [e2] at h; cases h)⟩⟩
          refine xt_tst <| xp_op <| xp_var rfl <| xp_tup <| xa_cons <| xp_str <| xa_cons <| xp_op <| xp_var rfl <| xp_int <| xo_ixL (at_nat (j := 0) rfl) <| xa_nil ⟨[_, _], rfl, (show 2 ≤ 100000 by decide), xo_neD (.dat _) (.dat _) s1 s1 ⟨_, rfl, fun h => ?_, fun _ => ?_⟩⟩
          · rw [PySem.SeqAt.eqv_refl _ s1.1] at h; cases h
          · exact xs_nil ⟨_, _, _, _, _, _, _, rfl, hT4⟩
      · obtain ⟨hg, hpc⟩ := ht2 hu
        obtain ⟨hk, hne⟩ := hd2 hu
        rcases hk with rfl | ⟨k, x, y, hk, rfl⟩
        · exact absurd rfl (hne hpc)
        rw [hg]
        have hk0 : shD 64 (PyData.str k) ∧ PyData.eqv (.str k) (.str (Str.ofString "signed")) = false := by
          rcases hk with rfl | rfl
          · exact ⟨shD.str _ svOk, rfl⟩
          · exact ⟨shD.str _ tuOk, rfl⟩
        have s3 : shD 64 (.list []) := shD.mono (shD.nil 0) (by decide)
        have e2 : PyData.eqv (.list []) (.list []) = true := rfl
        refine xs_seq <| xs_if <| xt_or <| xt_tst <| xp_op <| xp_op <| xp_op <| xp_var rfl <| xp_int <| xo_ixT (at_nat (j := 0) rfl) <| xp_str <| xo_eqD (.dat _) (.dat _) hk0.1 (shD.str _ sgOk) <| xp_op <| xp_var rfl <| xp_lst <| xa_nil ⟨[], rfl, Nat.zero_le _, xo_neD (.dat _) (.dat _) s3 s3 <| xo_neD (.dat _) (.dat _) (shD.bool _ _) (shD.bool _ _) ⟨_, rfl, fun h => ?_, fun _ => ?_⟩⟩
        · rw [hk0.2, e2] at h; cases h
        · refine xt_tst <| xp_op <| xp_cb <| xa_cons <| xp_var rfl <| xa_nil <| xc_len (.dat _) <| xp_int <| xo_b0 ⟨_, rfl, fun h => (by cases h), fun _ => xs_nil ?_⟩
          refine xs_if <| xt_and <| xt_tst <| xp_op <| xp_var rfl <| xp_lst <| xa_nil ⟨[], rfl, Nat.zero_le _, xo_neD (.dat _) (.dat _) s3 s3 ⟨_, rfl, fun h => (by rw [e2] at h; cases h), fun _ => ?_⟩⟩
          exact ⟨fun h => (by cases h), fun _ => xs_nil ⟨_, _, _, _, _, _, _, rfl, hT4⟩⟩
  · rintro ds' M' ⟨a, b, c, d, e, f, g, rfl, _⟩
    exact xs_ret <| xp_bl <| fin M'
theorem law_begin {H : Hp} {pF a : Addr} {ns : List Int} (hp : H pF = some (.tbl #[])) (hS : SqL K H a (ns.map V.int)) : spE K (p_law pF) [.ref a] H (fun v _ => v = .bl true) fun _ _ _ => False := by
  have ne : ∀ {b : Addr} {u : HO}, H b = some u → (∀ ps, u ≠ .tbl ps) → b ≠ pF := fun e h z => by
    rw [z, hp] at e
    exact h _ (Option.some.inj e).symm
  obtain ⟨G, hG⟩ : ∃ G : Hp, ∀ b, G b = if b = pF then none else H b := ⟨_, fun _ => rfl⟩
  obtain ⟨M, hM⟩ : ∃ M : MH, ∀ b, M b = if b = pF then some (.raw (.tbl #[])) else none := ⟨_, fun _ => rfl⟩
  have hGn : ∀ b, b ≠ pF → G b = H b := fun b z => by rw [hG, if_neg z]
  have hI : Inn K G M H := ⟨?_, fun p m e => ?_⟩
  refine ⟨G, M, [.sq ns], fun x _ => x = .dat (.bool true), hI, .cons ⟨a, rfl, ?_⟩ .nil, ⟨ns, ⟨#[], by rw [hM, if_pos rfl], trivial, fun pos cv z => by cases z⟩, rfl, fun _ => rfl⟩, fun v x M' G' H' _ d e => ?_⟩
  · rcases hS with (hS | ⟨o, hS⟩) | hS
    · exact .inl (.inl (by rw [hGn a (ne hS fun ps z => by cases z)]; exact hS))
    · exact .inl (.inr ⟨o, by rw [hGn a (ne hS fun ps z => by cases z)]; exact hS⟩)
    · exact .inr hS
  · subst e
    cases d
    rfl
  · intro b o e
    rw [hG] at e
    by_cases z : b = pF
    · rw [if_pos z] at e; cases e
    · rw [if_neg z] at e; exact e
  · rw [hM] at e
    by_cases z : p = pF
    · subst z
      rw [if_pos rfl] at e
      cases e
      exact ⟨by rw [hG, if_pos rfl], _, hp, rfl⟩
    · rw [if_neg z] at e; cases e
end
end K62
end
section
set_option Elab.async false
set_option linter.all false
set_option maxRecDepth 100000
set_option maxHeartbeats 4000000
set_option autoImplicit false
namespace K62
open PySem L2
theorem tab_same {S T : Tab} {m n : Nat} (h : Rect S m n) (h' : Rect T m n) (e : ∀ i j, ent S i j = ent T i j) : S = T := by
  refine List.ext_getElem (by rw [h.len, h'.len]) fun i h1 h2 => ?_
  have r1 : (S[i]).length = n := h.row _ (List.getElem_mem h1)
  have r2 : (T[i]).length = n := h'.row _ (List.getElem_mem h2)
  refine List.ext_getElem (by rw [r1, r2]) fun j g1 g2 => ?_
  have this := e i j
  unfold ent at this
  simp only [List.getD_eq_getElem?_getD, List.getElem?_eq_getElem h1, List.getElem?_eq_getElem h2, Option.getD_some, List.getElem?_eq_getElem g1, List.getElem?_eq_getElem g2] at this
  exact this
/-- all the signs of the spots l -/
structure SignOk (F : Tab) (m n : Nat) (l : List Spot) (A : List Tab) : Prop where
  nd : A.Nodup
  rect : ∀ T ∈ A, Rect T m n
  out : ∀ T ∈ A, ∀ s : Spot, s ∉ l → ent T s.1 s.2 = ent F s.1 s.2
  sg : ∀ T ∈ A, ∀ s ∈ l, ent T s.1 s.2 = 1 ∨ ent T s.1 s.2 = -1
  has : ∀ T, Rect T m n → (∀ s : Spot, s ∉ l → ent T s.1 s.2 = ent F s.1 s.2) → (∀ s ∈ l, ent T s.1 s.2 = 1 ∨ ent T s.1 s.2 = -1) → T ∈ A
theorem SignOk.step {F : Tab} {m n : Nat} {l : List Spot} {A : List Tab} (h : SignOk F m n l A) {s : Spot} (hs : s ∉ l) (h1 : s.1 < m) (h2 : s.2 < n) (hF : ent F s.1 s.2 = 1) : SignOk F m n (l ++ [s]) (A ++ A.map fun T => put2 T s.1 s.2 (-1)) := by
  have val : ∀ T ∈ A, ent T s.1 s.2 = 1 := fun T hT => by rw [h.out T hT s hs, hF]
  have putE : ∀ T, Rect T m n → ∀ v, Rect (put2 T s.1 s.2 v) m n ∧ ∀ x : Spot, ent (put2 T s.1 s.2 v) x.1 x.2 = if x = s then v else ent T x.1 x.2 := fun T hT v => by
    obtain ⟨a, b⟩ := ent_put hT h1 h2 v
    exact ⟨a, fun x => b x.1 x.2⟩
  have inj : ∀ T ∈ A, ∀ T' ∈ A, put2 T s.1 s.2 (-1) = put2 T' s.1 s.2 (-1) → T = T' := fun T ha T' hb e => by
    refine tab_same (h.rect _ ha) (h.rect _ hb) fun i j => ?_
    by_cases q : (i, j) = s
    · subst q
      have v1 := val _ ha
      have v2 := val _ hb
      rw [v1, v2]
    · have e1 := (putE _ (h.rect _ ha) (-1)).2 (i, j)
      have e2 := (putE _ (h.rect _ hb) (-1)).2 (i, j)
      rw [if_neg q] at e1 e2
      rw [e] at e1
      exact e1.symm.trans e2
  have ndm : (A.map fun T => put2 T s.1 s.2 (-1)).Nodup := List.pairwise_map.mpr (h.nd.imp_of_mem fun ha hb hne e => hne (inj _ ha _ hb e))
  refine ⟨List.nodup_append.mpr ⟨h.nd, ndm, fun a ha b hb e => ?_⟩, fun T hT => ?_, fun T hT x hx => ?_, fun T hT x hx => ?_, fun T hR ho hg => ?_⟩
  · obtain ⟨T, hT, rfl⟩ := List.mem_map.mp hb
    have e1 := (putE _ (h.rect _ hT) (-1)).2 s
    rw [if_pos rfl, ← e, val a ha] at e1
    cases e1
  · rcases List.mem_append.mp hT with hT | hT
    · exact h.rect T hT
    · obtain ⟨T0, h0, rfl⟩ := List.mem_map.mp hT
      exact (putE T0 (h.rect _ h0) (-1)).1
  · have xl : x ∉ l := fun z => hx (List.mem_append_left _ z)
    have xs : ¬ x = s := fun z => hx (List.mem_append_right _ (List.mem_singleton.mpr z))
    rcases List.mem_append.mp hT with hT | hT
    · exact h.out T hT x xl
    · obtain ⟨T0, h0, rfl⟩ := List.mem_map.mp hT
      rw [(putE T0 (h.rect _ h0) (-1)).2 x, if_neg xs]
      exact h.out T0 h0 x xl
  · rcases List.mem_append.mp hT with hA | hT
    · rcases List.mem_append.mp hx with hx | hx
      · exact h.sg T hA x hx
      · rw [List.mem_singleton.mp hx]
        exact .inl (val T hA)
    · obtain ⟨T0, h0, rfl⟩ := List.mem_map.mp hT
      have e := (putE T0 (h.rect _ h0) (-1)).2 x
      by_cases xs : x = s
      · rw [if_pos xs] at e
        exact .inr e
      · rw [if_neg xs] at e
        rw [e]
        rcases List.mem_append.mp hx with hx | hx
        · exact h.sg T0 h0 x hx
        · exact absurd (List.mem_singleton.mp hx) xs
  · rcases hg s (List.mem_append_right _ (List.mem_singleton.mpr rfl)) with g | g
    · refine List.mem_append_left _ (h.has T hR (fun x hx => ?_) fun x hx => hg x (List.mem_append_left _ hx))
      by_cases xs : x = s
      · rw [xs, g, hF]
      · exact ho x fun z => by
          rcases List.mem_append.mp z with z | z
          · exact hx z
          · exact xs (List.mem_singleton.mp z)
    · have p1 := putE T hR 1
      have p2 := putE _ p1.1 (-1)
      refine List.mem_append_right _ (List.mem_map.mpr ⟨put2 T s.1 s.2 1, h.has _ p1.1 (fun x hx => ?_) fun x hx => ?_, ?_⟩)
      · rw [p1.2 x]
        by_cases xs : x = s
        · rw [if_pos xs, xs, hF]
        · rw [if_neg xs]
          exact ho x fun z => by
            rcases List.mem_append.mp z with z | z
            · exact hx z
            · exact xs (List.mem_singleton.mp z)
      · rw [p1.2 x]
        by_cases xs : x = s
        · rw [if_pos xs]; exact .inl rfl
        · rw [if_neg xs]; exact hg x (List.mem_append_left _ hx)
      · refine tab_same p2.1 hR fun i j => ?_
        have e := p2.2 (i, j)
        have e' := p1.2 (i, j)
        by_cases xs : (i, j) = s
        · rw [if_pos xs] at e
          refine e.trans ?_
          rw [← g, ← xs]
        · rw [if_neg xs] at e e'
          exact e.trans e'
theorem signs_ok {F : Tab} {m n : Nat} (hF : Rect F m n) {left : List Spot} (nd : left.Nodup) (hl : ∀ s ∈ left, s.1 < m ∧ s.2 < n ∧ ent F s.1 s.2 = 1) : SignOk F m n left (signsN F left) := by
  have go : ∀ (l2 l1 : List Spot) (A : List Tab), SignOk F m n l1 A → (l1 ++ l2).Nodup → (∀ s ∈ l2, s.1 < m ∧ s.2 < n ∧ ent F s.1 s.2 = 1) → SignOk F m n (l1 ++ l2) (l2.foldl (fun acc s => acc ++ acc.map fun T => put2 T s.1 s.2 (-1)) A) := by
    intro l2
    induction l2 with
    | nil => intro l1 A h _ _; rw [List.append_nil]; exact h
    | cons s l2 ih =>
      intro l1 A h hn hs
      have e : l1 ++ s :: l2 = (l1 ++ [s]) ++ l2 := by rw [List.append_assoc]; rfl
      rw [e] at hn ⊢
      obtain ⟨a, b, c⟩ := hs s (List.mem_cons_self ..)
      have hn1 := (List.nodup_append.mp hn).1
      have sl : s ∉ l1 := fun z => (List.nodup_append.mp hn1).2.2 s z s (List.mem_singleton.mpr rfl) rfl
      exact ih _ _ (h.step sl a b c) hn fun x hx => hs x (List.mem_cons_of_mem _ hx)
  refine go left [] [F] ⟨by simp, fun T hT => ?_, fun T hT s _ => ?_, fun T _ s hs => (by cases hs), fun T hR ho _ => ?_⟩ nd hl
  · obtain rfl := List.mem_singleton.mp hT; exact hF
  · obtain rfl := List.mem_singleton.mp hT; rfl
  · exact List.mem_singleton.mpr (tab_same hR hF fun i j => ho (i, j) (by simp))
open Classical in
theorem one_of {l : List Tab} (nd : l.Nodup) {p : Tab → Prop} {x : Tab} (hx : x ∈ l) (hp : p x) (only : ∀ y ∈ l, p y → y = x) : (l.filterMap fun T => if p T then some (tabD T) else none) = [tabD x] := by
  induction l with
  | nil => cases hx
  | cons a l ih =>
    obtain ⟨na, nl⟩ := List.nodup_cons.mp nd
    by_cases e : a = x
    · subst e
      rw [List.filterMap_cons_some (f := fun T => if p T then some (tabD T) else none) (if_pos hp)]
      congr 1
      refine List.filterMap_eq_nil_iff.mpr fun y hy => if_neg fun hpy => na ?_
      rw [← only y (List.mem_cons_of_mem _ hy) hpy]; exact hy
    · have npa : ¬ p a := fun q => e (only a (List.mem_cons_self ..) q)
      rw [List.filterMap_cons_none (f := fun T => if p T then some (tabD T) else none) (if_neg npa)]
      refine ih nl ?_ fun y hy => only y (List.mem_cons_of_mem _ hy)
      rcases List.mem_cons.mp hx with q | q
      · exact absurd q.symm e
      · exact q
theorem tried : Tried := fun F S' m n hR m4 h01 hF => by
  have J := JInv.all (ent F) m n
  have nd : (leftF F m n).Nodup := by rw [leftF_eq]; exact List.Pairwise.filter _ (spots_nodup m n)
  have hl : ∀ s ∈ leftF F m n, s.1 < m ∧ s.2 < n ∧ ent F s.1 s.2 = 1 ∧ s ∉ (jrun (ent F) m n (spotsOf m n)).js := fun s hs => by
    rw [leftF_eq] at hs
    obtain ⟨a, b⟩ := List.mem_filter.mp hs
    obtain ⟨c, d⟩ := of_decide_eq_true b
    exact ⟨(mem_spots.mp a).1, (mem_spots.mp a).2, c, d⟩
  have hleft : ∀ s : Spot, s.1 < m → s.2 < n → ent F s.1 s.2 = 1 → s ∉ (jrun (ent F) m n (spotsOf m n)).js → s ∈ leftF F m n := fun s a b c d => by
    rw [leftF_eq]
    exact List.mem_filter.mpr ⟨mem_spots.mpr ⟨a, b⟩, decide_eq_true ⟨c, d⟩⟩
  have S := signs_ok hR nd fun s hs => ⟨(hl s hs).1, (hl s hs).2.1, (hl s hs).2.2.1⟩
  have only : ∀ T ∈ signsN F (leftF F m n), Uni T m n → T = S' := fun T hT hu => by
    refine tab_same (S.rect T hT) hF.rect (hF.alone (ent T) (fun a b => ⟨fun h => ?_, fun h => ?_⟩) (uni_gh.mp hu) fun s hs => ?_)
    · by_cases q : (a, b) ∈ leftF F m n
      · exact S.sg T hT (a, b) q
      · exact .inl ((S.out T hT (a, b) q).trans h)
    · rw [show ent T a b = ent F a b from S.out T hT (a, b) fun q => h (hl _ q).2.2.1]
      rcases ones_ent h01 a b with z | z
      · exact z
      · exact absurd z h
    · rw [S.out T hT s fun q => (hl s q).2.2.2 hs]
      exact (J.one s hs).2.1
  refine ⟨fun hu => ?_, fun hu => ⟨?_, ?_⟩⟩
  · refine one_of S.nd (p := fun T => Uni T m n) (x := S') (S.has S' hF.rect (fun s hs => ?_) fun s hs => ?_) hu only
    · by_cases h1 : ent F s.1 s.2 = 1
      · obtain ⟨a, b⟩ := ones_inn hR _ _ h1
        by_cases q : s ∈ (jrun (ent F) m n (spotsOf m n)).js
        · rw [hF.stood s q, h1]
        · exact absurd (hleft s a b h1 q) hs
      · rw [(hF.sgn s.1 s.2).2 h1]
        rcases ones_ent h01 s.1 s.2 with z | z
        · exact z.symm
        · exact absurd z h1
    · exact (hF.sgn s.1 s.2).1 (hl s hs).2.2.1
  · unfold goodF
    refine List.filterMap_eq_nil_iff.mpr fun T hT => if_neg fun q => hu ?_
    rw [← only T hT q]; exact q
  · rcases signed_or_piece (F := F) (n := n) m4 hR.n5 (ones_ent h01) with q | q
    · exact absurd (uni_gh.mpr ((forced_iff J hF.sgn hF.alone).mp q)) hu
    · exact q
end K62
end
section
set_option Elab.async false
set_option linter.all false
set_option maxRecDepth 100000
set_option maxHeartbeats 4000000
set_option autoImplicit false
namespace K62
open PySem L2 PyProof.Rows
theorem all_mk (ht : Tried) {l : PySem.W.OpenLaw} {n : Nat} {w : World} {K : PySem.W.Frag} {h : Heap} {mg : Str → Option Value} {fa : Addr} (X : K.In h) (G : h.Ns mainGlobals mg) (hfa : mg "law" = some (.ref fa))
    {f0 : Addr} {fd0 : FuncData}
    {f1 : Addr} {fd1 : FuncData}
    {f2 : Addr} {fd2 : FuncData}
    {f3 : Addr} {fd3 : FuncData}
    {f4 : Addr} {fd4 : FuncData}
    {f5 : Addr} {fd5 : FuncData}
    {f6 : Addr} {fd6 : FuncData}
    {f7 : Addr} {fd7 : FuncData}
    {f8 : Addr} {fd8 : FuncData}
    {f9 : Addr} {fd9 : FuncData}
    {f10 : Addr} {fd10 : FuncData}
    {f11 : Addr} {fd11 : FuncData}
    {f12 : Addr} {fd12 : FuncData}
    {f13 : Addr} {fd13 : FuncData}
    {f14 : Addr}
    {cF pF : Addr} {ocF kVF dcF pmF ctF : Value} {odF anF : Option Addr} {slF : Array (Option Value)}
    {f15 : Addr} {fd15 : FuncData}
    {f16 : Addr} {fd16 : FuncData}
    {f17 : Addr} {fd17 : FuncData}
    {f18 : Addr} {fd18 : FuncData}
    {f19 : Addr} {fd19 : FuncData}
    {f20 : Addr} {fd20 : FuncData}
    {f21 : Addr} {fd21 : FuncData}
    {f22 : Addr} {fd22 : FuncData}
    {f23 : Addr} {fd23 : FuncData}
    {f24 : Addr} {fd24 : FuncData}
    {f25 : Addr} {fd25 : FuncData}
    {f26 : Addr} {fd26 : FuncData}
    {f27 : Addr} {fd27 : FuncData}
    {f28 : Addr} {fd28 : FuncData}
    {f29 : Addr} {fd29 : FuncData}
    {f30 : Addr} {fd30 : FuncData}
    {f31 : Addr} {fd31 : FuncData}
    {f32 : Addr} {fd32 : FuncData}
    {f33 : Addr} {fd33 : FuncData}
    {f34 : Addr} {fd34 : FuncData}
    {f35 : Addr} {fd35 : FuncData}
    {f36 : Addr} {fd36 : FuncData}
    {f37 : Addr} {fd37 : FuncData}
    {f38 : Addr} {fd38 : FuncData}
    {f39 : Addr} {fd39 : FuncData}
    {t_MOST_PLACES_tables : Tok}
    {t_MOST_PLACES_seven : Tok}
    {t_SEVEN : Tok}
    {CW fI fJ : Addr} {fdI fdJ : FuncData}
    {aT a7 a4 b1 b2 b3 b4 : Addr} {esT : Array DictEntry} {nT n7 n4 m1 m2 m3 m4 : Nat} {s7 s4 q1 q2 q3 q4 : Array (Option Value)} {u1 u2 u3 u4 v1 v2 v3 v4 : Tok}
    (ad0 : PySem.W.nsIn K mainGlobals "is_whole" = some (some (.ref f0)))
    (F0 : L2.Fun K "is_whole" "is_whole" s_is_whole f0 fd0)
    (ad1 : PySem.W.nsIn K mainGlobals "is_table" = some (some (.ref f1)))
    (F1 : L2.Fun K "is_table" "is_table" s_is_table f1 fd1)
    (ad2 : PySem.W.nsIn K mainGlobals "check_table" = some (some (.ref f2)))
    (F2 : L2.Fun K "check_table" "check_table" s_check_table f2 fd2)
    (ad3 : PySem.W.nsIn K mainGlobals "check_ones" = some (some (.ref f3)))
    (F3 : L2.Fun K "check_ones" "check_ones" s_check_ones f3 fd3)
    (ad4 : PySem.W.nsIn K mainGlobals "picks" = some (some (.ref f4)))
    (F4 : L2.Fun K "picks" "picks" s_picks f4 fd4)
    (ad5 : PySem.W.nsIn K mainGlobals "are_right" = some (some (.ref f5)))
    (F5 : L2.Fun K "are_right" "are_right" s_are_right f5 fd5)
    (ad6 : PySem.W.nsIn K mainGlobals "sought" = some (some (.ref f6)))
    (F6 : L2.Fun K "sought" "sought" s_sought f6 fd6)
    (ad7 : PySem.W.nsIn K mainGlobals "all_picks" = some (some (.ref f7)))
    (F7 : L2.Fun K "all_picks" "all_picks" s_all_picks f7 fd7)
    (ad8 : PySem.W.nsIn K mainGlobals "first_bare" = some (some (.ref f8)))
    (F8 : L2.Fun K "first_bare" "first_bare" s_first_bare f8 fd8)
    (ad9 : PySem.W.nsIn K mainGlobals "is_unimodular" = some (some (.ref f9)))
    (F9 : L2.Fun K "is_unimodular" "is_unimodular" s_is_unimodular f9 fd9)
    (ad10 : PySem.W.nsIn K mainGlobals "check_small" = some (some (.ref f10)))
    (F10 : L2.Fun K "check_small" "check_small" s_check_small f10 fd10)
    (ad11 : PySem.W.nsIn K mainGlobals "way_between" = some (some (.ref f11)))
    (F11 : L2.Fun K "way_between" "way_between" s_way_between f11 fd11)
    (ad12 : PySem.W.nsIn K mainGlobals "neighbours" = some (some (.ref f12)))
    (F12 : L2.Fun K "neighbours" "neighbours" s_neighbours f12 fd12)
    (ad13 : PySem.W.nsIn K mainGlobals "joined_signs" = some (some (.ref f13)))
    (F13 : L2.Fun K "joined_signs" "joined_signs" s_joined_signs f13 fd13)
    (ad14 : PySem.W.nsIn K mainGlobals "forced_signs" = some (some (.ref f14)))
    (lF : K.lookup f14 = some ⟨ocF, odF, .func (PySem.W.fnOf "forced_signs" "forced_signs" (defArgs s_forced_signs) (defBody s_forced_signs) (defScope s_forced_signs) .none kVF dcF pmF anF (.ref cF) ctF), slF⟩) (cFi : PySem.W.codeIn K (.ref cF) "forced_signs" = true) (kF : PySem.W.keepIn K (.ref f14) = true)
    (ad15 : PySem.W.nsIn K mainGlobals "points_of" = some (some (.ref f15)))
    (F15 : L2.Fun K "points_of" "points_of" s_points_of f15 fd15)
    (ad16 : PySem.W.nsIn K mainGlobals "sums_of" = some (some (.ref f16)))
    (F16 : L2.Fun K "sums_of" "sums_of" s_sums_of f16 fd16)
    (ad17 : PySem.W.nsIn K mainGlobals "kept_sums" = some (some (.ref f17)))
    (F17 : L2.Fun K "kept_sums" "kept_sums" s_kept_sums f17 fd17)
    (ad18 : PySem.W.nsIn K mainGlobals "kind_by" = some (some (.ref f18)))
    (F18 : L2.Fun K "kind_by" "kind_by" s_kind_by f18 fd18)
    (ad19 : PySem.W.nsIn K mainGlobals "piece_by_twos" = some (some (.ref f19)))
    (F19 : L2.Fun K "piece_by_twos" "piece_by_twos" s_piece_by_twos f19 fd19)
    (ad20 : PySem.W.nsIn K mainGlobals "signed" = some (some (.ref f20)))
    (F20 : L2.Fun K "signed" "signed" s_signed f20 fd20)
    (ad21 : PySem.W.nsIn K mainGlobals "_law_source_of" = some (some (.ref f21)))
    (F21 : L2.Fun K "_law_source_of" "_law_source_of" s_law_source_of f21 fd21)
    (ad22 : PySem.W.nsIn K mainGlobals "_law_next" = some (some (.ref f22)))
    (F22 : L2.Fun K "_law_next" "_law_next" s_law_next f22 fd22)
    (ad23 : PySem.W.nsIn K mainGlobals "_law_one" = some (some (.ref f23)))
    (F23 : L2.Fun K "_law_one" "_law_one" s_law_one f23 fd23)
    (ad24 : PySem.W.nsIn K mainGlobals "_law_cell_at" = some (some (.ref f24)))
    (F24 : L2.Fun K "_law_cell_at" "_law_cell_at" s_law_cell_at f24 fd24)
    (ad25 : PySem.W.nsIn K mainGlobals "_law_mixed" = some (some (.ref f25)))
    (F25 : L2.Fun K "_law_mixed" "_law_mixed" s_law_mixed f25 fd25)
    (ad26 : PySem.W.nsIn K mainGlobals "_law_ends" = some (some (.ref f26)))
    (F26 : L2.Fun K "_law_ends" "_law_ends" s_law_ends f26 fd26)
    (ad27 : PySem.W.nsIn K mainGlobals "_law_net" = some (some (.ref f27)))
    (F27 : L2.Fun K "_law_net" "_law_net" s_law_net f27 fd27)
    (ad28 : PySem.W.nsIn K mainGlobals "_law_net_drawn" = some (some (.ref f28)))
    (F28 : L2.Fun K "_law_net_drawn" "_law_net_drawn" s_law_net_drawn f28 fd28)
    (ad29 : PySem.W.nsIn K mainGlobals "_law_stretches" = some (some (.ref f29)))
    (F29 : L2.Fun K "_law_stretches" "_law_stretches" s_law_stretches f29 fd29)
    (ad30 : PySem.W.nsIn K mainGlobals "_law_swung" = some (some (.ref f30)))
    (F30 : L2.Fun K "_law_swung" "_law_swung" s_law_swung f30 fd30)
    (ad31 : PySem.W.nsIn K mainGlobals "_law_twice" = some (some (.ref f31)))
    (F31 : L2.Fun K "_law_twice" "_law_twice" s_law_twice f31 fd31)
    (ad32 : PySem.W.nsIn K mainGlobals "_law_fano" = some (some (.ref f32)))
    (F32 : L2.Fun K "_law_fano" "_law_fano" s_law_fano f32 fd32)
    (ad33 : PySem.W.nsIn K mainGlobals "_law_ones" = some (some (.ref f33)))
    (F33 : L2.Fun K "_law_ones" "_law_ones" s_law_ones f33 fd33)
    (ad34 : PySem.W.nsIn K mainGlobals "_law_picks" = some (some (.ref f34)))
    (F34 : L2.Fun K "_law_picks" "_law_picks" s_law_picks f34 fd34)
    (ad35 : PySem.W.nsIn K mainGlobals "_law_unimodular" = some (some (.ref f35)))
    (F35 : L2.Fun K "_law_unimodular" "_law_unimodular" s_law_unimodular f35 fd35)
    (ad36 : PySem.W.nsIn K mainGlobals "_law_joining" = some (some (.ref f36)))
    (F36 : L2.Fun K "_law_joining" "_law_joining" s_law_joining f36 fd36)
    (ad37 : PySem.W.nsIn K mainGlobals "_law_thinned" = some (some (.ref f37)))
    (F37 : L2.Fun K "_law_thinned" "_law_thinned" s_law_thinned f37 fd37)
    (ad38 : PySem.W.nsIn K mainGlobals "_law_signings" = some (some (.ref f38)))
    (F38 : L2.Fun K "_law_signings" "_law_signings" s_law_signings f38 fd38)
    (ad39 : PySem.W.nsIn K mainGlobals "law" = some (some (.ref f39)))
    (F39 : L2.Fun K "law" "law" s_law f39 fd39)
    (z_abs : PySem.W.nsIn K mainGlobals "abs" = some none)
    (z_all : PySem.W.nsIn K mainGlobals "all" = some none)
    (z_bool : PySem.W.nsIn K mainGlobals "bool" = some none)
    (z_dict : PySem.W.nsIn K mainGlobals "dict" = some none)
    (z_enumerate : PySem.W.nsIn K mainGlobals "enumerate" = some none)
    (z_int : PySem.W.nsIn K mainGlobals "int" = some none)
    (z_isinstance : PySem.W.nsIn K mainGlobals "isinstance" = some none)
    (z_len : PySem.W.nsIn K mainGlobals "len" = some none)
    (z_list : PySem.W.nsIn K mainGlobals "list" = some none)
    (z_max : PySem.W.nsIn K mainGlobals "max" = some none)
    (z_min : PySem.W.nsIn K mainGlobals "min" = some none)
    (z_range : PySem.W.nsIn K mainGlobals "range" = some none)
    (z_sum : PySem.W.nsIn K mainGlobals "sum" = some none)
    (z_zip : PySem.W.nsIn K mainGlobals "zip" = some none)
    (g_MOST_PLACES_tables : PySem.W.nsIn K mainGlobals "MOST_PLACES_tables" = some (some (.int 8 t_MOST_PLACES_tables)))
    (g_MOST_PLACES_seven : PySem.W.nsIn K mainGlobals "MOST_PLACES_seven" = some (some (.int 5 t_MOST_PLACES_seven)))
    (g_SEVEN : PySem.W.nsIn K mainGlobals "SEVEN" = some (some (.int 7 t_SEVEN)))
    (aC : PySem.W.nsIn K mainGlobals "Webs" = some (some (.ref CW)))
    (aI : PySem.W.findIn K (.ref CW) "__init__" = some (some (.ref fI)))
    (iI : PySem.W.isFn K (.ref fI) = true)
    (aJ : PySem.W.findIn K (.ref CW) "join" = some (some (.ref fJ)))
    (iJ : PySem.W.isFn K (.ref fJ) = true)
    (FI : L2.Fun K "__init__" "Webs.__init__" s_Webs___init__ fI fdI)
    (FJ : L2.Fun K "join" "Webs.join" s_Webs_join fJ fdJ)
    (pg : PySem.W.plainGet K CW Str.empty = true)
    (hd : PySem.W.hasDictIn K CW = true)
    (po : PySem.W.plainOver K CW = true)
    (sa : PySem.W.findIn K (.ref CW) "__setattr__" = some (some (.builtin "object.__setattr__")))
    (mk : PySem.W.makesIn K CW = true)
    (kc : PySem.W.keepIn K (.ref CW) = true)
    (nR : PySem.W.findIn K (.ref CW) "row_labels" = some none)
    (nC : PySem.W.findIn K (.ref CW) "column_labels" = some none)
    (mT : PySem.W.nsIn K mainGlobals "TIED" = some (some (.ref aT)))
    (lT : K.lookup aT = some ⟨.type "dict", none, .dict esT nT, #[]⟩)
    (yT : PySem.W.KeysLit w.params esT.toList)
    (e7 : PySem.W.nsIn K aT "seven" = some (some (.ref a7)))
    (e4 : PySem.W.nsIn K aT "turned" = some (some (.ref a4)))
    (l7 : K.lookup a7 = some ⟨.type "tuple", none, .seq #[.ref b1, .ref b2, .ref b3] n7, s7⟩)
    (l4 : K.lookup a4 = some ⟨.type "tuple", none, .seq #[.ref b4] n4, s4⟩)
    (lb1 : K.lookup b1 = some ⟨.type "tuple", none, .seq #[.int 3 u1, .int 7 v1] m1, q1⟩)
    (lb2 : K.lookup b2 = some ⟨.type "tuple", none, .seq #[.int 4 u2, .int 7 v2] m2, q2⟩)
    (lb3 : K.lookup b3 = some ⟨.type "tuple", none, .seq #[.int 7 u3, .int 1 v3] m3, q3⟩)
    (lb4 : K.lookup b4 = some ⟨.type "tuple", none, .seq #[.int 4 u4, .int 7 v4] m4, q4⟩)
    (hT : ∀ p ∈ [pF], h.get? p = some { cls := .none, data := .fields #[] })
    (nP : K.lookup pF = none)
    (cH : PySem.W.codeHdIn K cF pF = true) :
    LamX.LawAtS l w K CX0 12 n "_law_script" mg fa h := by
  have e := hfa.symm.trans (PySem.W.mg_of X G ad39)
  cases e
  let T : Txt w K mg := { d_is_whole := ⟨_, _, F0, (F0.binds (ps := ["thing"]) fun _ _ _ _ _ _ us hl => match us, hl with | [_], _ => rfl), PySem.W.mg_of X G ad0⟩, d_is_table := ⟨_, _, F1, (F1.binds (ps := ["thing"]) fun _ _ _ _ _ _ us hl => match us, hl with | [_], _ => rfl), PySem.W.mg_of X G ad1⟩, d_check_table := ⟨_, _, F2, (F2.binds (ps := ["thing"]) fun _ _ _ _ _ _ us hl => match us, hl with | [_], _ => rfl), PySem.W.mg_of X G ad2⟩, d_check_ones := ⟨_, _, F3, (F3.binds (ps := ["table"]) fun _ _ _ _ _ _ us hl => match us, hl with | [_], _ => rfl), PySem.W.mg_of X G ad3⟩, d_picks := ⟨_, _, F4, (F4.binds (ps := ["many", "size"]) fun _ _ _ _ _ _ us hl => match us, hl with | [_, _], _ => rfl), PySem.W.mg_of X G ad4⟩, d_are_right := ⟨_, _, F5, (F5.binds (ps := ["table", "rows", "signs"]) fun _ _ _ _ _ _ us hl => match us, hl with | [_, _, _], _ => rfl), PySem.W.mg_of X G ad5⟩, d_sought := ⟨_, _, F6, (F6.binds (ps := ["table", "rows", "signs"]) fun _ _ _ _ _ _ us hl => match us, hl with | [_, _, _], _ => rfl), PySem.W.mg_of X G ad6⟩, d_all_picks := ⟨_, _, F7, (F7.binds (ps := ["many"]) fun _ _ _ _ _ _ us hl => match us, hl with | [_], _ => rfl), PySem.W.mg_of X G ad7⟩, d_first_bare := ⟨_, _, F8, (F8.binds (ps := ["table"]) fun _ _ _ _ _ _ us hl => match us, hl with | [_], _ => rfl), PySem.W.mg_of X G ad8⟩, d_is_unimodular := ⟨_, _, F9, (F9.binds (ps := ["table"]) fun _ _ _ _ _ _ us hl => match us, hl with | [_], _ => rfl), PySem.W.mg_of X G ad9⟩, d_check_small := ⟨_, _, F10, (F10.binds (ps := ["table"]) fun _ _ _ _ _ _ us hl => match us, hl with | [_], _ => rfl), PySem.W.mg_of X G ad10⟩, d_way_between := ⟨_, _, F11, (F11.binds (ps := ["signs", "i", "j"]) fun _ _ _ _ _ _ us hl => match us, hl with | [_, _, _], _ => rfl), PySem.W.mg_of X G ad11⟩, d_neighbours := ⟨_, _, F12, (F12.binds (ps := ["signs", "kind", "at"]) fun _ _ _ _ _ _ us hl => match us, hl with | [_, _, _], _ => rfl), PySem.W.mg_of X G ad12⟩, d_joined_signs := ⟨_, _, F13, (F13.binds (ps := ["table"]) fun _ _ _ _ _ _ us hl => match us, hl with | [_], _ => rfl), PySem.W.mg_of X G ad13⟩, d_forced_signs := ⟨_, _, (fun_mk (st := s_forced_signs) lF cFi kF), ((fun_mk (st := s_forced_signs) lF cFi kF).binds (ps := ["table"]) fun _ _ _ _ _ _ us hl => match us, hl with | [_], _ => rfl), PySem.W.mg_of X G ad14⟩, d_points_of := ⟨_, _, F15, (F15.binds (ps := ["table"]) fun _ _ _ _ _ _ us hl => match us, hl with | [_], _ => rfl), PySem.W.mg_of X G ad15⟩, d_sums_of := ⟨_, _, F16, (F16.binds (ps := ["numbers"]) fun _ _ _ _ _ _ us hl => match us, hl with | [_], _ => rfl), PySem.W.mg_of X G ad16⟩, d_kept_sums := ⟨_, _, F17, (F17.binds (ps := ["points", "kept"]) fun _ _ _ _ _ _ us hl => match us, hl with | [_, _], _ => rfl), PySem.W.mg_of X G ad17⟩, d_kind_by := ⟨_, _, F18, (F18.binds (ps := ["reached", "sums"]) fun _ _ _ _ _ _ us hl => match us, hl with | [_, _], _ => rfl), PySem.W.mg_of X G ad18⟩, d_piece_by_twos := ⟨_, _, F19, (F19.binds (ps := ["table"]) fun _ _ _ _ _ _ us hl => match us, hl with | [_], _ => rfl), PySem.W.mg_of X G ad19⟩, d_signed := ⟨_, _, F20, (F20.binds (ps := ["table"]) fun _ _ _ _ _ _ us hl => match us, hl with | [_], _ => rfl), PySem.W.mg_of X G ad20⟩, d_law_source_of := ⟨_, _, F21, (F21.binds (ps := ["_law_cell"]) fun _ _ _ _ _ _ us hl => match us, hl with | [_], _ => rfl), PySem.W.mg_of X G ad21⟩, d_law_next := ⟨_, _, F22, (F22.binds (ps := ["_law_source", "_law_many"]) fun _ _ _ _ _ _ us hl => match us, hl with | [_, _], _ => rfl), PySem.W.mg_of X G ad22⟩, d_law_one := ⟨_, _, F23, (F23.binds (ps := ["_law_source", "_law_some"]) fun _ _ _ _ _ _ us hl => match us, hl with | [_, _], _ => rfl), PySem.W.mg_of X G ad23⟩, d_law_cell_at := ⟨_, _, F24, (F24.binds (ps := ["_law_script", "_law_k"]) fun _ _ _ _ _ _ us hl => match us, hl with | [_, _], _ => rfl), PySem.W.mg_of X G ad24⟩, d_law_mixed := ⟨_, _, F25, (F25.binds (ps := ["_law_source", "_law_some"]) fun _ _ _ _ _ _ us hl => match us, hl with | [_, _], _ => rfl), PySem.W.mg_of X G ad25⟩, d_law_ends := ⟨_, _, F26, (F26.binds (ps := ["_law_source", "_law_many"]) fun _ _ _ _ _ _ us hl => match us, hl with | [_, _], _ => rfl), PySem.W.mg_of X G ad26⟩, d_law_net := ⟨_, _, F27, (F27.binds (ps := ["_law_ends_here", "_law_arcs"]) fun _ _ _ _ _ _ us hl => match us, hl with | [_, _], _ => rfl), PySem.W.mg_of X G ad27⟩, d_law_net_drawn := ⟨_, _, F28, (F28.binds (ps := ["_law_source", "_law_many", "_law_wide"]) fun _ _ _ _ _ _ us hl => match us, hl with | [_, _, _], _ => rfl), PySem.W.mg_of X G ad28⟩, d_law_stretches := ⟨_, _, F29, (F29.binds (ps := ["_law_source", "_law_many", "_law_wide"]) fun _ _ _ _ _ _ us hl => match us, hl with | [_, _, _], _ => rfl), PySem.W.mg_of X G ad29⟩, d_law_swung := ⟨_, _, F30, (F30.binds (ps := ["_law_source", "_law_table"]) fun _ _ _ _ _ _ us hl => match us, hl with | [_, _], _ => rfl), PySem.W.mg_of X G ad30⟩, d_law_twice := ⟨_, _, F31, (F31.binds (ps := ["_law_table", "_law_row", "_law_column"]) fun _ _ _ _ _ _ us hl => match us, hl with | [_, _, _], _ => rfl), PySem.W.mg_of X G ad31⟩, d_law_fano := ⟨_, _, F32, (F32.binds (ps := ["_law_source"]) fun _ _ _ _ _ _ us hl => match us, hl with | [_], _ => rfl), PySem.W.mg_of X G ad32⟩, d_law_ones := ⟨_, _, F33, (F33.binds (ps := ["_law_source"]) fun _ _ _ _ _ _ us hl => match us, hl with | [_], _ => rfl), PySem.W.mg_of X G ad33⟩, d_law_picks := ⟨_, _, F34, (F34.binds (ps := ["_law_many", "_law_size"]) fun _ _ _ _ _ _ us hl => match us, hl with | [_, _], _ => rfl), PySem.W.mg_of X G ad34⟩, d_law_unimodular := ⟨_, _, F35, (F35.binds (ps := ["_law_table"]) fun _ _ _ _ _ _ us hl => match us, hl with | [_], _ => rfl), PySem.W.mg_of X G ad35⟩, d_law_joining := ⟨_, _, F36, (F36.binds (ps := ["_law_table"]) fun _ _ _ _ _ _ us hl => match us, hl with | [_], _ => rfl), PySem.W.mg_of X G ad36⟩, d_law_thinned := ⟨_, _, F37, (F37.binds (ps := ["_law_source", "_law_table"]) fun _ _ _ _ _ _ us hl => match us, hl with | [_, _], _ => rfl), PySem.W.mg_of X G ad37⟩, d_law_signings := ⟨_, _, F38, (F38.binds (ps := ["_law_table", "_law_left"]) fun _ _ _ _ _ _ us hl => match us, hl with | [_, _], _ => rfl), PySem.W.mg_of X G ad38⟩, d_law := ⟨_, _, F39, (F39.binds (ps := ["_law_script"]) fun _ _ _ _ _ _ us hl => match us, hl with | [_], _ => rfl), PySem.W.mg_of X G ad39⟩, z_abs := PySem.W.mg_none_of X G z_abs, z_all := PySem.W.mg_none_of X G z_all, z_bool := PySem.W.mg_none_of X G z_bool, z_dict := PySem.W.mg_none_of X G z_dict, z_enumerate := PySem.W.mg_none_of X G z_enumerate, z_int := PySem.W.mg_none_of X G z_int, z_isinstance := PySem.W.mg_none_of X G z_isinstance, z_len := PySem.W.mg_none_of X G z_len, z_list := PySem.W.mg_none_of X G z_list, z_max := PySem.W.mg_none_of X G z_max, z_min := PySem.W.mg_none_of X G z_min, z_range := PySem.W.mg_none_of X G z_range, z_sum := PySem.W.mg_none_of X G z_sum, z_zip := PySem.W.mg_none_of X G z_zip, t_MOST_PLACES_tables := _, g_MOST_PLACES_tables := PySem.W.mg_of X G g_MOST_PLACES_tables, t_MOST_PLACES_seven := _, g_MOST_PLACES_seven := PySem.W.mg_of X G g_MOST_PLACES_seven, t_SEVEN := _, g_SEVEN := PySem.W.mg_of X G g_SEVEN, CW := CW, fI := fI, fdI := _, FI := FI, bI := (FI.binds (ps := ["self", "many", "wide"]) fun _ _ _ _ _ _ us hl => match us, hl with | [_, _, _], _ => rfl), fJ := fJ, fdJ := _, FJ := FJ, bJ := (FJ.binds (ps := ["self", "i", "j"]) fun _ _ _ _ _ _ us hl => match us, hl with | [_, _, _], _ => rfl), mW := PySem.W.mg_of X G aC, clW := ⟨pg, hd, po, sa⟩, mkW := ⟨mk, aI, iI, kc⟩, meJ := ⟨aJ, iJ, FJ.kp⟩, nR := nR, nC := nC, aT := aT, a7 := a7, a4 := a4, mT := PySem.W.mg_of X G mT, k7 := ⟨_, _, _, lT, yT, e7, rfl⟩, k4 := ⟨_, _, _, lT, yT, e4, rfl⟩, w7 := ⟨[b1, b2, b3], _, _, l7, .cons (.inr ⟨_, _, _, lb1, rfl, rfl, (show 2 ≤ sizeLine by decide), .cons ⟨_, rfl⟩ (.cons ⟨_, rfl⟩ .nil)⟩) (.cons (.inr ⟨_, _, _, lb2, rfl, rfl, (show 2 ≤ sizeLine by decide), .cons ⟨_, rfl⟩ (.cons ⟨_, rfl⟩ .nil)⟩) (.cons (.inr ⟨_, _, _, lb3, rfl, rfl, (show 2 ≤ sizeLine by decide), .cons ⟨_, rfl⟩ (.cons ⟨_, rfl⟩ .nil)⟩) .nil))⟩, w4 := ⟨[b4], _, _, l4, .cons (.inr ⟨_, _, _, lb4, rfl, rfl, (show 2 ≤ sizeLine by decide), .cons ⟨_, rfl⟩ (.cons ⟨_, rfl⟩ .nil)⟩) .nil⟩, cF := cF, pF := pF, xF := ⟨_, _, _, _, _, _, _, _, rfl, lF, cFi⟩ }
  refine ⟨fd39, [(cF, pF)], spE K (p_law pF), ?_, ?_, ?_, fun s v => ?_, ?_, fun base _ _ ht' => ok_law ht T (ht' (cF, pF) (List.mem_singleton.mpr rfl))⟩
  · intro p hp
    obtain rfl := List.mem_singleton.mp hp
    exact hT pF (List.mem_singleton.mpr rfl)
  · intro p hp
    obtain rfl := List.mem_singleton.mp hp
    exact nP
  · intro p hp
    obtain rfl := List.mem_singleton.mp hp
    exact PySem.W.codeHd_of_K X cH
  · obtain ⟨oc, od, dV, kV, doc, pm, an, ct, osl, rfl, _⟩ := F39.ex
    exact .of_eq rfl
  · intro H a ns hl hb hH hS
    have hp : H pF = some (.tbl #[]) := hH (cF, pF) (List.mem_singleton.mpr rfl)
    exact law_begin hp hS
end K62
end
open PySem PySem.W PyProof.Rows
set_option maxRecDepth 100000 in
set_option maxHeartbeats 0 in
theorem PySem.Challenge.cw_signbook_k62_whole_all_signs_tried_holds : PySem.Challenge.rw_signbook_k62_whole_all_signs_tried.Holds := by
  w_on; o_law; k_head; (case hw => w_witness2)
  k_fill
  refine LamX.walk_ofTs (l := PySem.Challenge.rw_signbook_k62_whole_all_signs_tried) (n := 63) (k := 12) (x := "_law_script") (CX := fun _ => L2.CX0) rfl (by decide) rfl ⟨rfl, by decide, by decide⟩ (fun w h Y => PySem.W.km_in_of Y) ?F fun _ _ _ _ _ z => z
  case F =>
    intro w mg fa h Y KX G hmg
    refine' K62.all_mk K62.tried KX G hmg ?ad0 ?F0 ?ad1 ?F1 ?ad2 ?F2 ?ad3 ?F3 ?ad4 ?F4 ?ad5 ?F5 ?ad6 ?F6 ?ad7 ?F7 ?ad8 ?F8 ?ad9 ?F9 ?ad10 ?F10 ?ad11 ?F11 ?ad12 ?F12 ?ad13 ?F13 ?ad14 ?lF ?cFi ?kF ?ad15 ?F15 ?ad16 ?F16 ?ad17 ?F17 ?ad18 ?F18 ?ad19 ?F19 ?ad20 ?F20 ?ad21 ?F21 ?ad22 ?F22 ?ad23 ?F23 ?ad24 ?F24 ?ad25 ?F25 ?ad26 ?F26 ?ad27 ?F27 ?ad28 ?F28 ?ad29 ?F29 ?ad30 ?F30 ?ad31 ?F31 ?ad32 ?F32 ?ad33 ?F33 ?ad34 ?F34 ?ad35 ?F35 ?ad36 ?F36 ?ad37 ?F37 ?ad38 ?F38 ?ad39 ?F39 ?z_abs ?z_all ?z_bool ?z_dict ?z_enumerate ?z_int ?z_isinstance ?z_len ?z_list ?z_max ?z_min ?z_range ?z_sum ?z_zip ?g_MOST_PLACES_tables ?g_MOST_PLACES_seven ?g_SEVEN ?aC ?aI ?iI ?aJ ?iJ ?FI ?FJ ?pg ?hd ?po ?sa ?mk ?kc ?nR ?nC ?mT ?lT ?yT ?e7 ?e4 ?l7 ?l4 ?lb1 ?lb2 ?lb3 ?lb4 ?hT ?nP ?cH
    (case ad0 => k_is)
    (case F0 => (refine' L2.fun_mk ?l ?c ?k; (case l => k_is); (case c => k_is); (case k => k_is)))
    (case ad1 => k_is)
    (case F1 => (refine' L2.fun_mk ?l ?c ?k; (case l => k_is); (case c => k_is); (case k => k_is)))
    (case ad2 => k_is)
    (case F2 => (refine' L2.fun_mk ?l ?c ?k; (case l => k_is); (case c => k_is); (case k => k_is)))
    (case ad3 => k_is)
    (case F3 => (refine' L2.fun_mk ?l ?c ?k; (case l => k_is); (case c => k_is); (case k => k_is)))
    (case ad4 => k_is)
    (case F4 => (refine' L2.fun_mk ?l ?c ?k; (case l => k_is); (case c => k_is); (case k => k_is)))
    (case ad5 => k_is)
    (case F5 => (refine' L2.fun_mk ?l ?c ?k; (case l => k_is); (case c => k_is); (case k => k_is)))
    (case ad6 => k_is)
    (case F6 => (refine' L2.fun_mk ?l ?c ?k; (case l => k_is); (case c => k_is); (case k => k_is)))
    (case ad7 => k_is)
    (case F7 => (refine' L2.fun_mk ?l ?c ?k; (case l => k_is); (case c => k_is); (case k => k_is)))
    (case ad8 => k_is)
    (case F8 => (refine' L2.fun_mk ?l ?c ?k; (case l => k_is); (case c => k_is); (case k => k_is)))
    (case ad9 => k_is)
    (case F9 => (refine' L2.fun_mk ?l ?c ?k; (case l => k_is); (case c => k_is); (case k => k_is)))
    (case ad10 => k_is)
    (case F10 => (refine' L2.fun_mk ?l ?c ?k; (case l => k_is); (case c => k_is); (case k => k_is)))
    (case ad11 => k_is)
    (case F11 => (refine' L2.fun_mk ?l ?c ?k; (case l => k_is); (case c => k_is); (case k => k_is)))
    (case ad12 => k_is)
    (case F12 => (refine' L2.fun_mk ?l ?c ?k; (case l => k_is); (case c => k_is); (case k => k_is)))
    (case ad13 => k_is)
    (case F13 => (refine' L2.fun_mk ?l ?c ?k; (case l => k_is); (case c => k_is); (case k => k_is)))
    (case ad14 => k_is)
    (case lF => k_is)
    (case cFi => k_is)
    (case kF => k_is)
    (case ad15 => k_is)
    (case F15 => (refine' L2.fun_mk ?l ?c ?k; (case l => k_is); (case c => k_is); (case k => k_is)))
    (case ad16 => k_is)
    (case F16 => (refine' L2.fun_mk ?l ?c ?k; (case l => k_is); (case c => k_is); (case k => k_is)))
    (case ad17 => k_is)
    (case F17 => (refine' L2.fun_mk ?l ?c ?k; (case l => k_is); (case c => k_is); (case k => k_is)))
    (case ad18 => k_is)
    (case F18 => (refine' L2.fun_mk ?l ?c ?k; (case l => k_is); (case c => k_is); (case k => k_is)))
    (case ad19 => k_is)
    (case F19 => (refine' L2.fun_mk ?l ?c ?k; (case l => k_is); (case c => k_is); (case k => k_is)))
    (case ad20 => k_is)
    (case F20 => (refine' L2.fun_mk ?l ?c ?k; (case l => k_is); (case c => k_is); (case k => k_is)))
    (case ad21 => k_is)
    (case F21 => (refine' L2.fun_mk ?l ?c ?k; (case l => k_is); (case c => k_is); (case k => k_is)))
    (case ad22 => k_is)
    (case F22 => (refine' L2.fun_mk ?l ?c ?k; (case l => k_is); (case c => k_is); (case k => k_is)))
    (case ad23 => k_is)
    (case F23 => (refine' L2.fun_mk ?l ?c ?k; (case l => k_is); (case c => k_is); (case k => k_is)))
    (case ad24 => k_is)
    (case F24 => (refine' L2.fun_mk ?l ?c ?k; (case l => k_is); (case c => k_is); (case k => k_is)))
    (case ad25 => k_is)
    (case F25 => (refine' L2.fun_mk ?l ?c ?k; (case l => k_is); (case c => k_is); (case k => k_is)))
    (case ad26 => k_is)
    (case F26 => (refine' L2.fun_mk ?l ?c ?k; (case l => k_is); (case c => k_is); (case k => k_is)))
    (case ad27 => k_is)
    (case F27 => (refine' L2.fun_mk ?l ?c ?k; (case l => k_is); (case c => k_is); (case k => k_is)))
    (case ad28 => k_is)
    (case F28 => (refine' L2.fun_mk ?l ?c ?k; (case l => k_is); (case c => k_is); (case k => k_is)))
    (case ad29 => k_is)
    (case F29 => (refine' L2.fun_mk ?l ?c ?k; (case l => k_is); (case c => k_is); (case k => k_is)))
    (case ad30 => k_is)
    (case F30 => (refine' L2.fun_mk ?l ?c ?k; (case l => k_is); (case c => k_is); (case k => k_is)))
    (case ad31 => k_is)
    (case F31 => (refine' L2.fun_mk ?l ?c ?k; (case l => k_is); (case c => k_is); (case k => k_is)))
    (case ad32 => k_is)
    (case F32 => (refine' L2.fun_mk ?l ?c ?k; (case l => k_is); (case c => k_is); (case k => k_is)))
    (case ad33 => k_is)
    (case F33 => (refine' L2.fun_mk ?l ?c ?k; (case l => k_is); (case c => k_is); (case k => k_is)))
    (case ad34 => k_is)
    (case F34 => (refine' L2.fun_mk ?l ?c ?k; (case l => k_is); (case c => k_is); (case k => k_is)))
    (case ad35 => k_is)
    (case F35 => (refine' L2.fun_mk ?l ?c ?k; (case l => k_is); (case c => k_is); (case k => k_is)))
    (case ad36 => k_is)
    (case F36 => (refine' L2.fun_mk ?l ?c ?k; (case l => k_is); (case c => k_is); (case k => k_is)))
    (case ad37 => k_is)
    (case F37 => (refine' L2.fun_mk ?l ?c ?k; (case l => k_is); (case c => k_is); (case k => k_is)))
    (case ad38 => k_is)
    (case F38 => (refine' L2.fun_mk ?l ?c ?k; (case l => k_is); (case c => k_is); (case k => k_is)))
    (case ad39 => k_is)
    (case F39 => (refine' L2.fun_mk ?l ?c ?k; (case l => k_is); (case c => k_is); (case k => k_is)))
    (case z_abs => k_is)
    (case z_all => k_is)
    (case z_bool => k_is)
    (case z_dict => k_is)
    (case z_enumerate => k_is)
    (case z_int => k_is)
    (case z_isinstance => k_is)
    (case z_len => k_is)
    (case z_list => k_is)
    (case z_max => k_is)
    (case z_min => k_is)
    (case z_range => k_is)
    (case z_sum => k_is)
    (case z_zip => k_is)
    (case g_MOST_PLACES_tables => k_is)
    (case g_MOST_PLACES_seven => k_is)
    (case g_SEVEN => k_is)
    (case aC => k_is)
    (case aI => k_is)
    (case iI => k_is)
    (case aJ => k_is)
    (case iJ => k_is)
    (case FI => (refine' L2.fun_mk ?l ?c ?k; (case l => k_is); (case c => k_is); (case k => k_is)))
    (case FJ => (refine' L2.fun_mk ?l ?c ?k; (case l => k_is); (case c => k_is); (case k => k_is)))
    (case pg => k_is)
    (case hd => k_is)
    (case po => k_is)
    (case sa => k_is)
    (case mk => k_is)
    (case kc => k_is)
    (case nR => k_is)
    (case nC => k_is)
    (case mT => k_is)
    (case lT => k_is)
    (case yT => exact ⟨⟨_, _, rfl, rfl⟩, ⟨_, _, rfl, rfl⟩, trivial⟩)
    (case e7 => k_is)
    (case e4 => k_is)
    (case l7 => k_is)
    (case l4 => k_is)
    (case lb1 => k_is)
    (case lb2 => k_is)
    (case lb3 => k_is)
    (case lb4 => k_is)
    (case hT => exact PySem.W.km_tabs_of Y)
    (case nP => first | kernel_rfl | exact rfl | decide +kernel)
    (case cH => first | kernel_rfl | exact rfl | decide +kernel)
