import PyProof.Rows.All
import Wide.All
import OpenK.AllK
import Wide.FinOn
import HandS.ForMost
import HandS.ForExc
import HandS.Evl
import HandS.Zip
import HandS.IsInst
import HandS.Conv
import HandS.Wide
import HandS.Style
import HandS.More
import HandS.ExcIs
import HandS.EndBits
import PySem.Challenge.RW_roomprices_k01_whole_told
set_option Elab.async false
set_option linter.all false
set_option maxRecDepth 100000
set_option maxHeartbeats 4000000
namespace RP
/-! sums, maps of the first n, a map changed at a place -/
def sumN : Nat → (Nat → Int) → Int
  | 0, _ => 0
  | n + 1, f => sumN n f + f n
def fset {α : Type} (f : Nat → α) (i : Nat) (v : α) : Nat → α := fun k => if k = i then v else f k
theorem fset_same {α : Type} (f : Nat → α) (i : Nat) (v : α) : fset f i v i = v := if_pos rfl
theorem fset_ne {α : Type} (f : Nat → α) {i k : Nat} (v : α) (h : k ≠ i) : fset f i v k = f k := if_neg h
theorem sumN_congr : ∀ {n : Nat} {f g : Nat → Int}, (∀ i, i < n → f i = g i) → sumN n f = sumN n g
  | 0, _, _, _ => rfl
  | n + 1, f, g, h => by
    have h1 := sumN_congr (n := n) (f := f) (g := g) fun i hi => h i (Nat.lt_succ_of_lt hi)
    have h2 := h n (Nat.lt_succ_self n)
    show sumN n f + f n = sumN n g + g n
    rw [h1, h2]
theorem sumN_le : ∀ {n : Nat} {f g : Nat → Int}, (∀ i, i < n → f i ≤ g i) → sumN n f ≤ sumN n g
  | 0, _, _, _ => Int.le_refl _
  | n + 1, f, g, h => by
    have h1 := sumN_le (n := n) (f := f) (g := g) fun i hi => h i (Nat.lt_succ_of_lt hi)
    have h2 := h n (Nat.lt_succ_self n)
    show sumN n f + f n ≤ sumN n g + g n
    omega
theorem sumN_add : ∀ (n : Nat) (f g : Nat → Int), sumN n (fun i => f i + g i) = sumN n f + sumN n g
  | 0, _, _ => rfl
  | n + 1, f, g => by
    have h := sumN_add n f g
    show sumN n (fun i => f i + g i) + (f n + g n) = sumN n f + f n + (sumN n g + g n)
    omega
theorem sumN_sub : ∀ (n : Nat) (f g : Nat → Int), sumN n (fun i => f i - g i) = sumN n f - sumN n g
  | 0, _, _ => rfl
  | n + 1, f, g => by
    have h := sumN_sub n f g
    show sumN n (fun i => f i - g i) + (f n - g n) = sumN n f + f n - (sumN n g + g n)
    omega
theorem sumN_mul : ∀ (n : Nat) (c : Int) (f : Nat → Int), sumN n (fun i => c * f i) = c * sumN n f
  | 0, c, _ => (Int.mul_zero c).symm
  | n + 1, c, f => by
    have h := sumN_mul n c f
    show sumN n (fun i => c * f i) + c * f n = c * (sumN n f + f n)
    rw [h, Int.mul_add]
theorem sumN_const : ∀ (n : Nat) (c : Int), sumN n (fun _ => c) = (n : Int) * c
  | 0, c => (Int.zero_mul c).symm
  | n + 1, c => by
    have h := sumN_const n c
    show sumN n (fun _ => c) + c = ((n + 1 : Nat) : Int) * c
    rw [h, Int.natCast_add, Int.add_mul]
    omega
theorem sumN_zero (n : Nat) : sumN n (fun _ => 0) = 0 := by
  rw [sumN_const, Int.mul_zero]
/-- if the sums are alike and none is more, all are alike -/
theorem sumN_eq_of_le : ∀ {n : Nat} {f g : Nat → Int}, (∀ i, i < n → f i ≤ g i) → sumN n f = sumN n g → ∀ i, i < n → f i = g i
  | 0, _, _, _, _, i, hi => absurd hi (Nat.not_lt_zero i)
  | n + 1, f, g, h, e, i, hi => by
    have h1 : sumN n f ≤ sumN n g := sumN_le fun i hi => h i (Nat.lt_succ_of_lt hi)
    have h2 := h n (Nat.lt_succ_self n)
    have e' : sumN n f + f n = sumN n g + g n := e
    by_cases hin : i = n
    · subst hin
      omega
    · exact sumN_eq_of_le (n := n) (fun i hi => h i (Nat.lt_succ_of_lt hi)) (by omega) i (by omega)
theorem sumN_one : ∀ {n : Nat} (i : Nat) (f : Nat → Int), i < n → (∀ k, k < n → k ≠ i → f k = 0) → sumN n f = f i
  | 0, i, _, hi, _ => absurd hi (Nat.not_lt_zero i)
  | n + 1, i, f, hi, h => by
    show sumN n f + f n = f i
    by_cases hin : i = n
    · subst hin
      have e : sumN i f = sumN i (fun _ => 0) := sumN_congr fun k hk => h k (Nat.lt_succ_of_lt hk) (by omega)
      rw [e, sumN_zero]
      omega
    · have e := sumN_one (n := n) i f (by omega) fun k hk hne => h k (Nat.lt_succ_of_lt hk) hne
      have e2 := h n (Nat.lt_succ_self n) (by omega)
      omega
theorem sumN_swap : ∀ (n m : Nat) (f : Nat → Nat → Int), sumN n (fun i => sumN m (fun j => f i j)) = sumN m (fun j => sumN n (fun i => f i j))
  | 0, m, f => by
    show (0 : Int) = sumN m (fun _ => 0)
    rw [sumN_zero]
  | n + 1, m, f => by
    have h := sumN_swap n m f
    show sumN n (fun i => sumN m (fun j => f i j)) + sumN m (fun j => f n j) = sumN m (fun j => sumN n (fun i => f i j) + f n j)
    rw [h, sumN_add m (fun j => sumN n fun i => f i j) (fun j => f n j)]
/-- a way around and back -/
theorem sumN_tele : ∀ (n : Nat) (f : Nat → Int), sumN n (fun i => f (i + 1) - f i) = f n - f 0
  | 0, f => by
    show (0 : Int) = f 0 - f 0
    omega
  | n + 1, f => by
    have h := sumN_tele n f
    show sumN n (fun i => f (i + 1) - f i) + (f (n + 1) - f n) = f (n + 1) - f 0
    omega
/-! ### each once -/
structure Pm (n : Nat) (g : Nat → Nat) : Prop where
  lt : ∀ i, i < n → g i < n
  inj : ∀ i j, i < n → j < n → g i = g j → i = j
theorem pigeon : ∀ (n : Nat) (g : Nat → Nat), (∀ i, i < n → g i < n) → (∀ i j, i < n → j < n → g i = g j → i = j) → ∀ j, j < n → ∃ i, i < n ∧ g i = j
  | 0, _, _, _, j, hj => absurd hj (Nat.not_lt_zero j)
  | n + 1, g, hl, hi, j, hj => by
    have hn := hl n (Nat.lt_succ_self n)
    have ih := pigeon n (fun i => if g i = n then g n else g i) (fun i hin => by
      have h1 := hl i (by omega)
      show (if g i = n then g n else g i) < n
      split
      · next e =>
        have : g n ≠ n := fun e2 => by
          have := hi i n (by omega) (by omega) (e.trans e2.symm)
          omega
        omega
      · omega) (fun a b ha hb e => by
      have e : (if g a = n then g n else g a) = if g b = n then g n else g b := e
      by_cases h1 : g a = n <;> by_cases h2 : g b = n
      · exact hi a b (by omega) (by omega) (h1.trans h2.symm)
      · rw [if_pos h1, if_neg h2] at e
        have := hi n b (by omega) (by omega) e
        omega
      · rw [if_neg h1, if_pos h2] at e
        have := hi a n (by omega) (by omega) e
        omega
      · rw [if_neg h1, if_neg h2] at e
        exact hi a b (by omega) (by omega) e)
    by_cases hjm : j = g n
    · exact ⟨n, by omega, hjm.symm⟩
    · by_cases hjn : j = n
      · obtain ⟨i, hin, e⟩ := ih (g n) (by omega)
        have e : (if g i = n then g n else g i) = g n := e
        by_cases h1 : g i = n
        · exact ⟨i, by omega, h1.trans hjn.symm⟩
        · rw [if_neg h1] at e
          have := hi i n (by omega) (by omega) e
          omega
      · obtain ⟨i, hin, e⟩ := ih j (by omega)
        have e : (if g i = n then g n else g i) = j := e
        by_cases h1 : g i = n
        · rw [if_pos h1] at e
          exact absurd e.symm hjm
        · rw [if_neg h1] at e
          exact ⟨i, by omega, e⟩
theorem Pm.sur {n : Nat} {g : Nat → Nat} (h : Pm n g) : ∀ j, j < n → ∃ i, i < n ∧ g i = j := pigeon n g h.lt h.inj
/-- who has it -/
structure Own (n : Nat) (g o : Nat → Nat) : Prop where
  lt : ∀ j, j < n → o j < n
  go : ∀ j, j < n → g (o j) = j
  og : ∀ i, i < n → o (g i) = i
theorem Pm.own {n : Nat} {g : Nat → Nat} (h : Pm n g) : ∃ o, Own n g o := by
  have hs : ∀ j, ∃ i, j < n → (i < n ∧ g i = j) := fun j => by
    by_cases hj : j < n
    · obtain ⟨i, hi, e⟩ := h.sur j hj
      exact ⟨i, fun _ => ⟨hi, e⟩⟩
    · exact ⟨0, fun q => absurd q hj⟩
  refine ⟨fun j => Classical.choose (hs j), fun j hj => (Classical.choose_spec (hs j) hj).1, fun j hj => (Classical.choose_spec (hs j) hj).2, fun i hi => ?_⟩
  have q := Classical.choose_spec (hs (g i)) (h.lt i hi)
  exact h.inj _ _ q.1 hi q.2
theorem Own.inj {n : Nat} {g o : Nat → Nat} (h : Own n g o) {a b : Nat} (ha : a < n) (hb : b < n) (e : o a = o b) : a = b := by
  rw [← h.go a ha, ← h.go b hb, e]
theorem Own.pm {n : Nat} {g o : Nat → Nat} (h : Own n g o) : Pm n o := ⟨h.lt, fun _ _ ha hb e => h.inj ha hb e⟩
theorem Own.uniq {n : Nat} {g o o' : Nat → Nat} (h : Own n g o) (h' : Own n g o') {j : Nat} (hj : j < n) : o j = o' j := by
  have e := h'.og (o j) (h.lt j hj)
  rw [h.go j hj] at e
  exact e.symm
theorem Pm.sum {n : Nat} {g : Nat → Nat} (h : Pm n g) (f : Nat → Int) : sumN n (fun i => f (g i)) = sumN n f := by
  have e1 : sumN n (fun i => f (g i)) = sumN n (fun i => sumN n (fun j => if g i = j then f j else 0)) := sumN_congr fun i hi => by
    rw [sumN_one (g i) _ (h.lt i hi) fun k _ hne => if_neg fun e => hne e.symm, if_pos rfl]
  rw [e1, sumN_swap]
  refine sumN_congr fun j hj => ?_
  obtain ⟨i, hi, e⟩ := h.sur j hj
  rw [sumN_one i _ hi fun k hk hne => if_neg fun e2 => hne (h.inj k i hk hi (e2.trans e.symm)), if_pos e]
/-! ### prices that fit -/
structure Fit (n : Nat) (M : Nat → Nat → Int) (r : Int) (g : Nat → Nat) (p : Nat → Int) : Prop where
  sum : sumN n p = (n : Int) * r
  no : ∀ i j, i < n → j < n → (n : Int) * M i j - p j ≤ (n : Int) * M i (g i) - p (g i)
/-- by how much the second can cost more than the first -/
def gapw (M : Nat → Nat → Int) (o : Nat → Nat) : Nat → Nat → Int := fun a b => M (o b) b - M (o b) a
def Pot (n : Nat) (c : Int) (w : Nat → Nat → Int) (q : Nat → Int) : Prop := ∀ i j, i < n → j < n → q j ≤ q i + c * w i j
def Wor (n : Nat) (M : Nat → Nat → Int) (g : Nat → Nat) : Int := sumN n (fun i => M i (g i))
section
variable {n : Nat} {M : Nat → Nat → Int} {r : Int} {g o : Nat → Nat} {p q : Nat → Int}
theorem gapw_self (a : Nat) : gapw M o a a = 0 := Int.sub_self _
theorem Fit.pot (h : Fit n M r g p) (O : Own n g o) : Pot n n (gapw M o) p := fun a b ha hb => by
  have e := h.no (o b) a (O.lt b hb) ha
  rw [O.go b hb] at e
  show p b ≤ p a + (n : Int) * (M (o b) b - M (o b) a)
  rw [Int.mul_sub]
  omega
theorem pot_fit (h : Pot n 1 (gapw M o) q) (G : Pm n g) (O : Own n g o) : Fit n M r g (fun j => (r - sumN n q) + (n : Int) * q j) := by
  refine ⟨?_, fun i j hi hj => ?_⟩
  · rw [sumN_add n (fun _ => r - sumN n q) (fun j => (n : Int) * q j), sumN_const, sumN_mul, Int.mul_sub]
    omega
  · have e := h j (g i) hj (G.lt i hi)
    have e2 : gapw M o j (g i) = M i (g i) - M i j := by
      show M (o (g i)) (g i) - M (o (g i)) j = _
      rw [O.og i hi]
    rw [e2] at e
    have e3 : (n : Int) * q (g i) ≤ (n : Int) * (q j + 1 * (M i (g i) - M i j)) := Int.mul_le_mul_of_nonneg_left e (by omega)
    rw [Int.one_mul, Int.mul_add, Int.mul_sub] at e3
    show (n : Int) * M i j - ((r - sumN n q) + (n : Int) * q j) ≤ (n : Int) * M i (g i) - ((r - sumN n q) + (n : Int) * q (g i))
    omega
theorem Fit.most (h : Fit n M r g p) (G : Pm n g) {g' : Nat → Nat} (G' : Pm n g') (hn : 0 < n) : Wor n M g' ≤ Wor n M g := by
  have e1 : sumN n (fun i => (n : Int) * M i (g' i) - p (g' i)) ≤ sumN n (fun i => (n : Int) * M i (g i) - p (g i)) := sumN_le fun i hi => h.no i (g' i) hi (G'.lt i hi)
  rw [sumN_sub n (fun i => (n : Int) * M i (g' i)) (fun i => p (g' i)), sumN_sub n (fun i => (n : Int) * M i (g i)) (fun i => p (g i)), sumN_mul, sumN_mul, G.sum p, G'.sum p] at e1
  have e2 : (n : Int) * Wor n M g' ≤ (n : Int) * Wor n M g := by
    show (n : Int) * sumN n (fun i => M i (g' i)) ≤ (n : Int) * sumN n (fun i => M i (g i))
    omega
  exact Int.le_of_mul_le_mul_left e2 (by omega)
/-- prices of one giving fit each other one of as much -/
theorem Fit.also (h : Fit n M r g p) (G : Pm n g) {g' : Nat → Nat} (G' : Pm n g') (e : Wor n M g' = Wor n M g) : Fit n M r g' p := by
  have e1 : sumN n (fun i => (n : Int) * M i (g' i) - p (g' i)) = sumN n (fun i => (n : Int) * M i (g i) - p (g i)) := by
    rw [sumN_sub n (fun i => (n : Int) * M i (g' i)) (fun i => p (g' i)), sumN_sub n (fun i => (n : Int) * M i (g i)) (fun i => p (g i)), sumN_mul, sumN_mul, G.sum p, G'.sum p]
    have e' : sumN n (fun i => M i (g' i)) = sumN n (fun i => M i (g i)) := e
    rw [e']
  have e2 := sumN_eq_of_le (fun i hi => h.no i (g' i) hi (G'.lt i hi)) e1
  refine ⟨h.sum, fun i j hi hj => ?_⟩
  rw [e2 i hi]
  exact h.no i j hi hj
theorem Fit.iff_most {g' : Nat → Nat} (h : Fit n M r g p) (G : Pm n g) (G' : Pm n g') (hn : 0 < n) : Fit n M r g' p ↔ Wor n M g' = Wor n M g :=
  ⟨fun h' => Int.le_antisymm (h.most G G' hn) (h'.most G' G hn), fun e => h.also G G' e⟩
/-- what can be priced at one rent can be at any -/
theorem Pot.scale {c : Int} {w : Nat → Nat → Int} (h : Pot n 1 w q) (hc : 0 ≤ c) : Pot n c w (fun j => c * q j) := fun i j hi hj => by
  have e := Int.mul_le_mul_of_nonneg_left (h i j hi hj) hc
  rw [Int.one_mul, Int.mul_add] at e
  exact e
end
end RP
namespace RP
/-! ### a step again and again -/
def itf (f : Nat → Nat) : Nat → Nat → Nat
  | 0, x => x
  | m + 1, x => f (itf f m x)
theorem itf_add (f : Nat → Nat) (x : Nat) : ∀ a b, itf f (a + b) x = itf f a (itf f b x)
  | 0, b => by rw [Nat.zero_add]; rfl
  | a + 1, b => by
    rw [Nat.add_right_comm]
    show f (itf f (a + b) x) = f (itf f a (itf f b x))
    rw [itf_add f x a b]
/-- of more than n numbers below n two are alike -/
theorem twice : ∀ (n : Nat) (y : Nat → Nat), (∀ i, i ≤ n → y i < n) → ∃ i j, i < j ∧ j ≤ n ∧ y i = y j := fun n y h => by
  refine Classical.byContradiction fun hne => ?_
  have inj : ∀ i j, i < n + 1 → j < n + 1 → y i = y j → i = j := fun i j hi hj e => by
    refine Classical.byContradiction fun hij => hne ?_
    rcases Nat.lt_or_gt_of_ne hij with q | q
    · exact ⟨i, j, q, by omega, e⟩
    · exact ⟨j, i, q, by omega, e.symm⟩
  obtain ⟨i, hi, e⟩ := pigeon (n + 1) y (fun i hi => Nat.lt_succ_of_lt (h i (by omega))) inj n (Nat.lt_succ_self n)
  have := h i (by omega)
  omega
/-! ### rings that bar -/
/-- a ring of rooms, each behind the one ahead of it -/
structure Ringed (n : Nat) (w : Nat → Nat → Int) (ahead : Nat → Nat) (x k : Nat) : Prop where
  pos : 0 < k
  le : k ≤ n
  back : itf ahead k x = x
  first : ∀ m, 0 < m → m < k → itf ahead m x ≠ x
  lt : ∀ m, itf ahead m x < n
  neg : sumN k (fun m => w (itf ahead (m + 1) x) (itf ahead m x)) < 0
theorem Ringed.inj {n : Nat} {w : Nat → Nat → Int} {ahead : Nat → Nat} {x k : Nat} (R : Ringed n w ahead x k) : ∀ a b, a < k → b < k → itf ahead a x = itf ahead b x → a = b := by
  have key : ∀ a b, a < b → b < k → itf ahead a x ≠ itf ahead b x := fun a b hab hb e => by
    have e1 : itf ahead (k - b + a) x = itf ahead (k - b + b) x := by rw [itf_add, itf_add, e]
    rw [Nat.sub_add_cancel (Nat.le_of_lt hb), R.back] at e1
    exact R.first (k - b + a) (by omega) (by omega) e1
  intro a b ha hb e
  rcases Nat.lt_trichotomy a b with q | q | q
  · exact absurd e (key a b q hb)
  · exact q
  · exact absurd e.symm (key b a q ha)
/-- no prices where a ring is -/
theorem Ringed.bars {n : Nat} {c : Int} {w : Nat → Nat → Int} {ahead : Nat → Nat} {x k : Nat} (R : Ringed n w ahead x k) (hc : 0 < c) {q : Nat → Int} (P : Pot n c w q) : False := by
  have h1 : sumN k (fun m => itf ahead (m + 1) x |> fun b => q (itf ahead m x) - q b) ≤ sumN k (fun m => c * w (itf ahead (m + 1) x) (itf ahead m x)) := sumN_le fun m _ => by
    have := P (itf ahead (m + 1) x) (itf ahead m x) (R.lt _) (R.lt _)
    show q (itf ahead m x) - q (itf ahead (m + 1) x) ≤ _
    omega
  have h2 := sumN_tele k (fun m => q (itf ahead m x))
  have h3 : sumN k (fun m => q (itf ahead m x) - q (itf ahead (m + 1) x)) = - sumN k (fun m => q (itf ahead (m + 1) x) - q (itf ahead m x)) := by
    have z := sumN_add k (fun m => q (itf ahead m x) - q (itf ahead (m + 1) x)) (fun m => q (itf ahead (m + 1) x) - q (itf ahead m x))
    have z0 : sumN k (fun m => q (itf ahead m x) - q (itf ahead (m + 1) x) + (q (itf ahead (m + 1) x) - q (itf ahead m x))) = 0 := by
      rw [sumN_congr (g := fun _ => 0) fun i _ => by omega]
      exact sumN_zero k
    omega
  have h4 : itf ahead k x = itf ahead 0 x := R.back
  have h2 : sumN k (fun m => q (itf ahead (m + 1) x) - q (itf ahead m x)) = q (itf ahead k x) - q (itf ahead 0 x) := h2
  rw [h4] at h2
  have h1 : sumN k (fun m => q (itf ahead m x) - q (itf ahead (m + 1) x)) ≤ sumN k (fun m => c * w (itf ahead (m + 1) x) (itf ahead m x)) := h1
  rw [h3, h2, sumN_mul] at h1
  have h5 := Int.mul_neg_of_pos_of_neg hc R.neg
  omega
/-! ### the search: turn k (from 1), edges ahead of (a, b) looked at in it -/
structure BF (n : Nat) (w : Nat → Nat → Int) (k a b : Nat) (far : Nat → Int) (ahead : Nat → Nat) (last : Option Nat) (pass tm : Nat → Nat) (clock : Nat) : Prop where
  alt : ∀ v, v < n → ahead v < n
  ple : ∀ v, v < n → pass v ≤ k
  tle : ∀ v, v < n → tm v ≤ clock
  edge : ∀ v, v < n → 0 < pass v → far (ahead v) + w (ahead v) v ≤ far v
  str : ∀ v, v < n → 0 < pass v → tm v < tm (ahead v) → far (ahead v) + w (ahead v) v < far v
  tne : ∀ v, v < n → 0 < pass v → tm (ahead v) ≠ tm v
  prev : ∀ v, v < n → 0 < pass v → pass v ≤ pass (ahead v) + 1
  old : ∀ u v, u < n → v < n → pass u + 1 < k → far v ≤ far u + w u v
  now : ∀ u v, u < n → v < n → (u < a ∨ (u = a ∧ v < b)) → pass u < k → far v ≤ far u + w u v
  none : last = Option.none → ∀ v, v < n → pass v < k
  some : ∀ x, last = Option.some x → x < n ∧ pass x = k
section
variable {n : Nat} {w : Nat → Nat → Int} {k a b : Nat} {far : Nat → Int} {ahead : Nat → Nat} {last : Option Nat} {pass tm : Nat → Nat} {clock : Nat}
theorem BF.start (hn : 0 < n) : BF n w 1 0 0 (fun _ => 0) (fun _ => 0) .none (fun _ => 0) (fun _ => 0) 0 where
  alt := fun _ _ => hn
  ple := fun _ _ => Nat.zero_le _
  tle := fun _ _ => Nat.le_refl _
  edge := fun _ _ h => absurd h (Nat.lt_irrefl 0)
  str := fun _ _ h => absurd h (Nat.lt_irrefl 0)
  tne := fun _ _ h => absurd h (Nat.lt_irrefl 0)
  prev := fun _ _ h => absurd h (Nat.lt_irrefl 0)
  old := fun _ _ _ _ h => absurd h (Nat.lt_irrefl _)
  now := fun u v _ _ h => by omega
  none := fun _ _ _ => Nat.zero_lt_one
  some := fun _ h => nomatch h
theorem BF.skip (B : BF n w k a b far ahead last pass tm clock) (h : ¬ far a + w a b < far b) : BF n w k a (b + 1) far ahead last pass tm clock :=
  ⟨B.alt, B.ple, B.tle, B.edge, B.str, B.tne, B.prev, B.old, (fun u v hu hv hq hp => by
      by_cases e : u = a ∧ v = b
      · obtain ⟨e1, e2⟩ := e
        rw [e1, e2]
        omega
      · exact B.now u v hu hv (by omega) hp), B.none, B.some⟩
theorem BF.relax (B : BF n w k a b far ahead last pass tm clock) (ha : a < n) (hb : b < n) (h0 : w b b = 0) (h : far a + w a b < far b) :
    BF n w k a (b + 1) (fset far b (far a + w a b)) (fset ahead b a) (.some b) (fset pass b k) (fset tm b (clock + 1)) (clock + 1) := by
  have hab : a ≠ b := fun e => by
    subst e
    omega
  have hpa : k ≤ pass a + 1 := Classical.byContradiction fun hc => by
    have := B.old a b ha hb (by omega)
    omega
  have fle : ∀ v, fset far b (far a + w a b) v ≤ far v := fun v => by
    by_cases e : v = b
    · subst e
      rw [fset_same]
      omega
    · rw [fset_ne _ _ e]
      exact Int.le_refl _
  have pge : ∀ v, v < n → pass v ≤ fset pass b k v := fun v hv => by
    by_cases e : v = b
    · subst e
      rw [fset_same]
      exact B.ple v hv
    · rw [fset_ne _ _ e]
      exact Nat.le_refl _
  refine ⟨fun v hv => ?_, fun v hv => ?_, fun v hv => ?_, fun v hv hp => ?_, fun v hv hp ht => ?_, fun v hv hp => ?_, fun v hv hp => ?_, fun u v hu hv hp => ?_, fun u v hu hv hq hp => ?_, (fun e => nomatch e), fun x e => ?_⟩
  · by_cases e : v = b
    · subst e
      rw [fset_same]
      exact ha
    · rw [fset_ne _ _ e]
      exact B.alt v hv
  · by_cases e : v = b
    · subst e
      rw [fset_same]
      exact Nat.le_refl _
    · rw [fset_ne _ _ e]
      exact B.ple v hv
  · by_cases e : v = b
    · subst e
      rw [fset_same]
      exact Nat.le_refl _
    · rw [fset_ne _ _ e]
      exact Nat.le_succ_of_le (B.tle v hv)
  · by_cases e : v = b
    · subst e
      rw [fset_same, fset_same, fset_ne far _ hab]
      exact Int.le_refl _
    · rw [fset_ne pass _ e] at hp
      rw [fset_ne ahead _ e, fset_ne far _ e]
      have := B.edge v hv hp
      have := fle (ahead v)
      omega
  · by_cases e : v = b
    · subst e
      rw [fset_same, fset_same, fset_ne tm _ hab] at ht
      have := B.tle a ha
      omega
    · rw [fset_ne pass _ e] at hp
      rw [fset_ne tm _ e, fset_ne ahead _ e] at ht
      rw [fset_ne ahead _ e, fset_ne far _ e]
      by_cases e2 : ahead v = b
      · have h1 := B.edge v hv hp
        rw [e2] at h1
        rw [e2, fset_same]
        omega
      · rw [fset_ne tm _ e2] at ht
        rw [fset_ne far _ e2]
        exact B.str v hv hp ht
  · by_cases e : v = b
    · subst e
      rw [fset_same, fset_same, fset_ne tm _ hab]
      have := B.tle a ha
      omega
    · rw [fset_ne pass _ e] at hp
      rw [fset_ne tm _ e, fset_ne ahead _ e]
      by_cases e2 : ahead v = b
      · rw [e2, fset_same]
        have := B.tle v hv
        omega
      · rw [fset_ne tm _ e2]
        exact B.tne v hv hp
  · by_cases e : v = b
    · subst e
      rw [fset_same, fset_same, fset_ne pass _ hab]
      exact hpa
    · rw [fset_ne pass _ e] at hp
      rw [fset_ne ahead _ e, fset_ne pass _ e]
      have h1 := B.prev v hv hp
      have h2 := pge (ahead v) (B.alt v hv)
      omega
  · by_cases e : u = b
    · subst e
      rw [fset_same] at hp
      omega
    · rw [fset_ne pass _ e] at hp
      rw [fset_ne far _ e]
      have h1 := B.old u v hu hv hp
      have h2 := fle v
      omega
  · by_cases e : u = b
    · subst e
      rw [fset_same] at hp
      omega
    · rw [fset_ne pass _ e] at hp
      rw [fset_ne far _ e]
      by_cases e2 : u = a ∧ v = b
      · obtain ⟨rfl, rfl⟩ := e2
        rw [fset_same]
        exact Int.le_refl _
      · have h1 := B.now u v hu hv (by omega) hp
        have h2 := fle v
        omega
  · cases e
    exact ⟨hb, fset_same _ _ _⟩
theorem BF.row (B : BF n w k a n far ahead last pass tm clock) : BF n w k (a + 1) 0 far ahead last pass tm clock :=
  { B with now := fun u v hu hv hq hp => B.now u v hu hv (by omega) hp }
theorem BF.turn (B : BF n w k n 0 far ahead last pass tm clock) : BF n w (k + 1) 0 0 far ahead .none pass tm clock :=
  { B with
    ple := fun v hv => Nat.le_succ_of_le (B.ple v hv)
    old := fun u v hu hv hp => B.now u v hu hv (.inl hu) (by omega)
    now := fun u v hu hv hq _ => by omega
    none := fun _ v hv => Nat.lt_succ_of_le (B.ple v hv)
    some := fun _ e => nomatch e }
theorem BF.pot (B : BF n w k n 0 far ahead .none pass tm clock) : Pot n 1 w far := fun u v hu hv => by
  have := B.now u v hu hv (.inl hu) (B.none rfl u hu)
  omega
/-- from the last room that was changed: back as often as there are rooms, one stands in a ring -/
theorem BF.ring {x : Nat} (B : BF n w (n + 1) n 0 far ahead (.some x) pass tm clock) : ∃ k, Ringed n w ahead (itf ahead n x) k := by
  obtain ⟨hx, px⟩ := B.some x rfl
  have ylt : ∀ m, itf ahead m x < n := fun m => by
    induction m with
    | zero => exact hx
    | succ m ih => exact B.alt _ ih
  have yp : ∀ m, m ≤ n → n + 1 ≤ pass (itf ahead m x) + m := fun m hm => by
    induction m with
    | zero => exact Nat.le_of_eq px.symm
    | succ m ih =>
      have h1 := ih (by omega)
      have h2 := B.prev (itf ahead m x) (ylt m) (by omega)
      show n + 1 ≤ pass (ahead (itf ahead m x)) + (m + 1)
      omega
  obtain ⟨i, j, hij, hj, e⟩ := twice n (fun m => itf ahead m x) fun m _ => ylt m
  have e : itf ahead i x = itf ahead j x := e
  -- behind i all comes again after j - i
  have per : ∀ d, itf ahead (i + d) x = itf ahead (j + d) x := fun d => by
    rw [Nat.add_comm i d, Nat.add_comm j d, itf_add, itf_add, e]
  have pos : ∀ d, 0 < pass (itf ahead (i + d) x) := by
    have : ∀ d0 d, d ≤ d0 → 0 < pass (itf ahead (i + d) x) := fun d0 => by
      induction d0 with
      | zero =>
        intro d hd
        have h := yp (i + d) (by omega)
        omega
      | succ d0 ih =>
        intro d hd
        by_cases hjd : i + d ≤ n
        · have h := yp (i + d) hjd
          omega
        · have h1 : j + (d - (j - i)) = i + d := by omega
          rw [← h1, ← per]
          exact ih _ (by omega)
    exact fun d => this d d (Nat.le_refl d)
  -- the least number of steps back to itself
  have back : itf ahead (j - i) (itf ahead n x) = itf ahead n x := by
    rw [← itf_add]
    have h := per (n - i)
    rw [show i + (n - i) = n by omega, show j + (n - i) = j - i + n by omega] at h
    exact h.symm
  have least : ∀ d, 0 < d → d ≤ n → itf ahead d (itf ahead n x) = itf ahead n x → ∃ k, 0 < k ∧ k ≤ n ∧ itf ahead k (itf ahead n x) = itf ahead n x ∧ ∀ m, 0 < m → m < k → itf ahead m (itf ahead n x) ≠ itf ahead n x := by
    intro d
    induction d using Nat.strongRecOn with
    | ind d ih =>
      intro h1 h2 h3
      by_cases h : ∃ m, 0 < m ∧ m < d ∧ itf ahead m (itf ahead n x) = itf ahead n x
      · obtain ⟨m, m1, m2, m3⟩ := h
        exact ih m m2 m1 (by omega) m3
      · exact ⟨d, h1, h2, h3, fun m m1 m2 m3 => h ⟨m, m1, m2, m3⟩⟩
  obtain ⟨k, k0, kn, kb, kf⟩ := least (j - i) (by omega) (by omega) back
  refine ⟨k, k0, kn, kb, kf, fun m => ?_, ?_⟩
  · rw [← itf_add]
    exact ylt _
  -- it costs less than nothing
  have zlt : ∀ m, itf ahead m (itf ahead n x) < n := fun m => by
    rw [← itf_add]
    exact ylt _
  have zpos : ∀ m, 0 < pass (itf ahead m (itf ahead n x)) := fun m => by
    rw [← itf_add, show m + n = i + (m + n - i) by omega]
    exact pos _
  have key : ∀ m, sumN m (fun m => w (itf ahead (m + 1) (itf ahead n x)) (itf ahead m (itf ahead n x))) + far (itf ahead m (itf ahead n x)) ≤ far (itf ahead n x) ∧
      (0 < m → sumN m (fun m => w (itf ahead (m + 1) (itf ahead n x)) (itf ahead m (itf ahead n x))) + far (itf ahead m (itf ahead n x)) = far (itf ahead n x) → tm (itf ahead m (itf ahead n x)) < tm (itf ahead n x)) := fun m => by
    induction m with
    | zero =>
      refine ⟨?_, fun h => absurd h (Nat.lt_irrefl 0)⟩
      show (0 : Int) + far (itf ahead n x) ≤ far (itf ahead n x)
      omega
    | succ m ih =>
      obtain ⟨ih1, ih2⟩ := ih
      have ed := B.edge _ (zlt m) (zpos m)
      have st := B.str _ (zlt m) (zpos m)
      have tn := B.tne _ (zlt m) (zpos m)
      have e0 : itf ahead (m + 1) (itf ahead n x) = ahead (itf ahead m (itf ahead n x)) := rfl
      show (sumN m (fun m => w (itf ahead (m + 1) (itf ahead n x)) (itf ahead m (itf ahead n x))) + w (itf ahead (m + 1) (itf ahead n x)) (itf ahead m (itf ahead n x))) + far (itf ahead (m + 1) (itf ahead n x)) ≤ far (itf ahead n x) ∧
        (0 < m + 1 → (sumN m (fun m => w (itf ahead (m + 1) (itf ahead n x)) (itf ahead m (itf ahead n x))) + w (itf ahead (m + 1) (itf ahead n x)) (itf ahead m (itf ahead n x))) + far (itf ahead (m + 1) (itf ahead n x)) = far (itf ahead n x) → tm (itf ahead (m + 1) (itf ahead n x)) < tm (itf ahead n x))
      rw [e0]
      refine ⟨by omega, fun _ h => ?_⟩
      have h1 : ¬ tm (itf ahead m (itf ahead n x)) < tm (ahead (itf ahead m (itf ahead n x))) := fun q => by
        have := st q
        omega
      by_cases hm : m = 0
      · subst hm
        have h1 : ¬ tm (itf ahead n x) < tm (ahead (itf ahead n x)) := h1
        have tn : tm (ahead (itf ahead n x)) ≠ tm (itf ahead n x) := tn
        show tm (ahead (itf ahead n x)) < tm (itf ahead n x)
        omega
      · have h2 := ih2 (by omega) (by omega)
        omega
  obtain ⟨q1, q2⟩ := key k
  rw [kb] at q1 q2
  have q3 : ¬ sumN k (fun m => w (itf ahead (m + 1) (itf ahead n x)) (itf ahead m (itf ahead n x))) = 0 := fun e => by
    have := q2 k0 (by omega)
    omega
  omega
end
/-! ### the farthest that one can be dearer than another -/
def fw (w : Nat → Nat → Int) : Nat → Nat → Nat → Int
  | 0 => w
  | k + 1 => fun i j => min (fw w k i j) (fw w k i k + fw w k k j)
section
variable {n : Nat} {w : Nat → Nat → Int} {c : Int} {q : Nat → Int}
theorem fw_le (k i j : Nat) : fw w (k + 1) i j ≤ fw w k i j := Int.min_le_left _ _
theorem fw_by (k i j : Nat) : fw w (k + 1) i j ≤ fw w k i k + fw w k k j := Int.min_le_right _ _
theorem fw_w : ∀ k i j, fw w k i j ≤ w i j
  | 0, i, j => Int.le_refl _
  | k + 1, i, j => Int.le_trans (fw_le k i j) (fw_w k i j)
theorem fw_pot (hc : 0 ≤ c) (P : Pot n c w q) : ∀ k, k ≤ n → Pot n c (fw w k) q
  | 0, _ => P
  | k + 1, hk => fun i j hi hj => by
    have ih := fw_pot hc P k (by omega)
    have h1 := ih i j hi hj
    have h2 := ih i k hi (by omega)
    have h3 := ih k j (by omega) hj
    show q j ≤ q i + c * min (fw w k i j) (fw w k i k + fw w k k j)
    rcases Int.le_total (fw w k i j) (fw w k i k + fw w k k j) with h | h
    · rw [Int.min_eq_left h]
      exact h1
    · rw [Int.min_eq_right h, Int.mul_add]
      omega
variable (P : Pot n 1 w q) (h0 : ∀ i, i < n → w i i = 0)
include P h0
theorem fw_diag {k i : Nat} (hk : k ≤ n) (hi : i < n) : fw w k i i = 0 := by
  have h1 := fw_pot (by decide) P k hk i i hi hi
  have h2 := fw_w (w := w) k i i
  have h3 := h0 i hi
  omega
theorem fw_row {k j : Nat} (hk : k < n) (hj : j < n) : fw w (k + 1) k j = fw w k k j := by
  have h1 := fw_diag P h0 (Nat.le_of_lt hk) hk
  show min (fw w k k j) (fw w k k k + fw w k k j) = fw w k k j
  rw [h1, Int.zero_add]
  exact Int.min_eq_left (Int.le_refl _)
theorem fw_col {k i : Nat} (hk : k < n) (hi : i < n) : fw w (k + 1) i k = fw w k i k := by
  have h1 := fw_diag P h0 (Nat.le_of_lt hk) hk
  show min (fw w k i k) (fw w k i k + fw w k k k) = fw w k i k
  rw [h1, Int.add_zero]
  exact Int.min_eq_left (Int.le_refl _)
theorem fw_tri : ∀ k, k ≤ n → ∀ m i j, m < k → i < n → j < n → fw w k i j ≤ fw w k i m + fw w k m j
  | 0, _, m, _, _, hm, _, _ => absurd hm (Nat.not_lt_zero m)
  | k + 1, hk, m, i, j, hm, hi, hj => by
    have ih := fw_tri k (by omega)
    have d := fw_diag P h0 (k := k) (i := k) (by omega) (by omega)
    by_cases e : m = k
    · subst e
      rw [fw_col P h0 (by omega) hi, fw_row P h0 (by omega) hj]
      exact fw_by m i j
    · have hmk : m < k := by omega
      have a1 := ih m i j hmk hi hj
      have a2 := ih m k j hmk (by omega) hj
      have a3 := ih m i k hmk hi (by omega)
      have a4 := ih m k k hmk (by omega) (by omega)
      have l1 := fw_le (w := w) k i j
      have l2 := fw_by (w := w) k i j
      have e1 : fw w (k + 1) i m = min (fw w k i m) (fw w k i k + fw w k k m) := rfl
      have e2 : fw w (k + 1) m j = min (fw w k m j) (fw w k m k + fw w k k j) := rfl
      rcases Int.le_total (fw w k i m) (fw w k i k + fw w k k m) with q1 | q1 <;> rcases Int.le_total (fw w k m j) (fw w k m k + fw w k k j) with q2 | q2
      · rw [e1, e2, Int.min_eq_left q1, Int.min_eq_left q2]
        omega
      · rw [e1, e2, Int.min_eq_left q1, Int.min_eq_right q2]
        omega
      · rw [e1, e2, Int.min_eq_right q1, Int.min_eq_left q2]
        omega
      · rw [e1, e2, Int.min_eq_right q1, Int.min_eq_right q2]
        omega
end
/-- the bounds -/
structure Dist (n : Nat) (w D : Nat → Nat → Int) : Prop where
  le : ∀ i j, i < n → j < n → D i j ≤ w i j
  dg : ∀ i, i < n → D i i = 0
  tri : ∀ i m j, i < n → m < n → j < n → D i j ≤ D i m + D m j
  low : ∀ (c : Int) (q : Nat → Int), 0 ≤ c → Pot n c w q → Pot n c D q
section
variable {n : Nat} {w D : Nat → Nat → Int} {q : Nat → Int}
theorem fw_dist (P : Pot n 1 w q) (h0 : ∀ i, i < n → w i i = 0) : Dist n w (fw w n) where
  le := fun i j _ _ => fw_w n i j
  dg := fun i hi => fw_diag P h0 (Nat.le_refl n) hi
  tri := fun i m j hi hm hj => fw_tri P h0 n (Nat.le_refl n) m i j hm hi hj
  low := fun c q hc P => fw_pot hc P n (Nat.le_refl n)
theorem Dist.from (d : Dist n w D) {a : Nat} (ha : a < n) : Pot n 1 w (fun j => D a j) := fun i j hi hj => by
  have h1 := d.tri a i j ha hi hj
  have h2 := d.le i j hi hj
  show D a j ≤ D a i + 1 * w i j
  omega
theorem Dist.to (d : Dist n w D) {a : Nat} (ha : a < n) : Pot n 1 w (fun j => - D j a) := fun i j hi hj => by
  have h1 := d.tri i j a hi hj ha
  have h2 := d.le i j hi hj
  show - D j a ≤ - D i a + 1 * w i j
  omega
end
section
variable {n : Nat} {w D : Nat → Nat → Int} {M : Nat → Nat → Int} {r : Int} {g o : Nat → Nat} {p : Nat → Int}
/-- told prices stand between the bounds -/
theorem Dist.least (d : Dist n (gapw M o) D) (O : Own n g o) (F : Fit n M r g p) (hn : 0 < n) {a : Nat} (ha : a < n) : r - sumN n (fun j => D a j) ≤ p a := by
  have h := d.low n p (by omega) (F.pot O)
  have h1 : sumN n p ≤ sumN n (fun j => p a + (n : Int) * D a j) := sumN_le fun j hj => h a j ha hj
  rw [sumN_add n (fun _ => p a) (fun j => (n : Int) * D a j), sumN_const, sumN_mul, F.sum] at h1
  have h1 : (n : Int) * r ≤ (n : Int) * p a + (n : Int) * sumN n (fun j => D a j) := h1
  have h2 : (n : Int) * (r - sumN n (fun j => D a j)) ≤ (n : Int) * p a := by
    rw [Int.mul_sub]
    omega
  exact Int.le_of_mul_le_mul_left h2 (by omega)
theorem Dist.greatest (d : Dist n (gapw M o) D) (O : Own n g o) (F : Fit n M r g p) (hn : 0 < n) {a : Nat} (ha : a < n) : p a ≤ r + sumN n (fun j => D j a) := by
  have h := d.low n p (by omega) (F.pot O)
  have h1 : sumN n (fun _ => p a) ≤ sumN n (fun j => p j + (n : Int) * D j a) := sumN_le fun j hj => h j a hj ha
  rw [sumN_add n p (fun j => (n : Int) * D j a), sumN_const, sumN_mul, F.sum] at h1
  have h2 : (n : Int) * p a ≤ (n : Int) * (r + sumN n (fun j => D j a)) := by
    rw [Int.mul_add]
    omega
  exact Int.le_of_mul_le_mul_left h2 (by omega)
end
end RP
namespace RP
/-! ### the giving that is worth most: people and rooms from 1 on -/
/-- what a room costs one above what both bear -/
def slk (M : Nat → Nat → Int) (u v : Nat → Int) (i j : Nat) : Int := - M (i - 1) (j - 1) - u i - v j
/-- people below who have rooms -/
structure HI (n : Nat) (M : Nat → Nat → Int) (who : Nat) (u v : Nat → Int) (p : Nat → Nat) : Prop where
  pl : ∀ j, 1 ≤ j → j ≤ n → p j < who
  inj : ∀ j k, 1 ≤ j → j ≤ n → 1 ≤ k → k ≤ n → p j = p k → p j ≠ 0 → j = k
  sur : ∀ i, 1 ≤ i → i < who → ∃ j, 1 ≤ j ∧ j ≤ n ∧ p j = i
  fea : ∀ i, 1 ≤ i → i < who → ∀ j, 1 ≤ j → j ≤ n → 0 ≤ slk M u v i j
  tig : ∀ j, 1 ≤ j → j ≤ n → p j ≠ 0 → slk M u v (p j) j = 0
theorem HI.start (n : Nat) (M : Nat → Nat → Int) (u v : Nat → Int) : HI n M 1 u v (fun _ => 0) where
  pl := fun _ _ _ => Nat.zero_lt_one
  inj := fun _ _ _ _ _ _ _ h => absurd rfl h
  sur := fun i h1 h2 => by omega
  fea := fun i h1 h2 => by omega
  tig := fun _ _ _ h => absurd rfl h
/-- who stands before room 0 -/
structure PB (n who : Nat) (P : Nat → Nat) : Prop where
  w0 : 1 ≤ who
  wn : who ≤ n
  p0 : P 0 = who
  pl : ∀ j, 1 ≤ j → j ≤ n → P j < who
  inj : ∀ j k, j ≤ n → k ≤ n → P j = P k → P j ≠ 0 → j = k
  sur : ∀ i, 1 ≤ i → i < who → ∃ j, 1 ≤ j ∧ j ≤ n ∧ P j = i
theorem HI.pb {n who : Nat} {M : Nat → Nat → Int} {u v : Nat → Int} {p : Nat → Nat} (h : HI n M who u v p) (h1 : 1 ≤ who) (h2 : who ≤ n) : PB n who (fset p 0 who) := by
  have ne : ∀ j, 1 ≤ j → fset p 0 who j = p j := fun j hj => fset_ne _ _ (by omega)
  refine ⟨h1, h2, fset_same _ _ _, fun j a b => ?_, fun j k a b e z => ?_, fun i a b => ?_⟩
  · rw [ne j a]
    exact h.pl j a b
  · by_cases hj : j = 0 <;> by_cases hk : k = 0
    · omega
    · subst hj
      rw [fset_same, ne k (by omega)] at e
      have := h.pl k (by omega) b
      omega
    · subst hk
      rw [fset_same, ne j (by omega)] at e
      have := h.pl j (by omega) a
      omega
    · rw [ne j (by omega)] at e z
      rw [ne k (by omega)] at e
      exact h.inj j k (by omega) a (by omega) b e z
  · obtain ⟨j, a1, a2, a3⟩ := h.sur i a b
    exact ⟨j, a1, a2, by rw [ne j a1]; exact a3⟩
/-- a free room -/
theorem PB.free {n who : Nat} {P : Nat → Nat} (h : PB n who P) : ∃ j, 1 ≤ j ∧ j ≤ n ∧ P j = 0 := by
  refine Classical.byContradiction fun hc => ?_
  have nz : ∀ j, 1 ≤ j → j ≤ n → P j ≠ 0 := fun j a b e => hc ⟨j, a, b, e⟩
  have hn : 0 < n := Nat.lt_of_lt_of_le (Nat.lt_of_lt_of_le Nat.zero_lt_one h.w0) h.wn
  -- the rooms 1 .. n, by their people less one, would be below who - 1 < n
  obtain ⟨i, hi, e⟩ := pigeon n (fun i => P (i + 1) - 1) (fun i hi => by
    have := h.pl (i + 1) (by omega) (by omega)
    have := h.wn
    show P (i + 1) - 1 < n
    omega) (fun i j hi hj e => by
    have a := nz (i + 1) (by omega) (by omega)
    have b := nz (j + 1) (by omega) (by omega)
    have e : P (i + 1) - 1 = P (j + 1) - 1 := e
    have := h.inj (i + 1) (j + 1) (by omega) (by omega) (by omega) a
    omega) (n - 1) (by omega)
  have e : P (i + 1) - 1 = n - 1 := e
  have := nz (i + 1) (by omega) (by omega)
  have := h.pl (i + 1) (by omega) (by omega)
  have := h.wn
  have := h.w0
  omega
/-- what holds through the search for a room: ds the rooms reached, here the last of them -/
structure TI (n : Nat) (M : Nat → Nat → Int) (who : Nat) (P : Nat → Nat) (ds : List Nat) (here : Nat) (u v : Nat → Int) (way : Nat → Nat) : Prop where
  nd : ds.Nodup
  le : ∀ j, j ∈ ds → j ≤ n
  head : ds[0]? = some 0
  last : ds[ds.length - 1]? = some here
  used : ∀ j, j ∈ ds → j ≠ here → P j ≠ 0
  tree : ∀ (t j : Nat), ds[t]? = some j → 0 < t → ∃ t', t' < t ∧ ds[t']? = some (way j) ∧ slk M u v (P (way j)) j = 0
  fea : ∀ i, 1 ≤ i → i < who → ∀ j, 1 ≤ j → j ≤ n → 0 ≤ slk M u v i j
  feaw : 2 ≤ ds.length → ∀ j, 1 ≤ j → j ≤ n → 0 ≤ slk M u v who j
  tig : ∀ j, 1 ≤ j → j ≤ n → P j ≠ 0 → slk M u v (P j) j = 0
/-- a room not reached: ahead of the look at it, behind -/
def Bef (M : Nat → Nat → Int) (P : Nat → Nat) (ds : List Nat) (here : Nat) (u v : Nat → Int) (mv : Nat → Option Int) (way : Nat → Nat) (j : Nat) : Prop :=
  (ds.length = 1 ∧ mv j = none) ∨ ∃ m, mv j = some m ∧ 0 ≤ m ∧ (∀ k, k ∈ ds → k ≠ here → m ≤ slk M u v (P k) j) ∧ way j ∈ ds ∧ m = slk M u v (P (way j)) j
def Aft (M : Nat → Nat → Int) (P : Nat → Nat) (ds : List Nat) (u v : Nat → Int) (mv : Nat → Option Int) (way : Nat → Nat) (j : Nat) : Prop :=
  ∃ m, mv j = some m ∧ (2 ≤ ds.length → 0 ≤ m) ∧ (∀ k, k ∈ ds → m ≤ slk M u v (P k) j) ∧ way j ∈ ds ∧ m = slk M u v (P (way j)) j
section
variable {n who : Nat} {M : Nat → Nat → Int} {P : Nat → Nat} {ds : List Nat} {here : Nat} {u v : Nat → Int} {mv : Nat → Option Int} {way : Nat → Nat}
theorem TI.start (h : HI n M who u v P') (hp : P = fset P' 0 who) : TI n M who P [0] 0 u v way := by
  subst hp
  have ne : ∀ j, 1 ≤ j → fset P' 0 who j = P' j := fun j hj => fset_ne _ _ (by omega)
  refine ⟨by simp, fun j hj => ?_, rfl, rfl, fun j hj hne => ?_, fun t j e ht => ?_, h.fea, fun q => ?_, fun j a b z => ?_⟩
  · simp at hj
    omega
  · simp at hj
    exact absurd hj hne
  · cases t with
    | zero => exact absurd ht (Nat.lt_irrefl 0)
    | succ t => simp at e
  · simp at q
  · rw [ne j a] at z
    rw [ne j a]
    exact h.tig j a b z
theorem TI.hereIn (T : TI n M who P ds here u v way) : here ∈ ds := List.mem_of_getElem? T.last
theorem TI.pos (T : TI n M who P ds here u v way) : 0 < ds.length := by
  have h := T.head
  cases ds with
  | nil => simp at h
  | cons a r => simp
theorem TI.zero (T : TI n M who P ds here u v way) : 0 ∈ ds := List.mem_of_getElem? T.head
/-- of one room reached alone it is 0 -/
theorem TI.one (T : TI n M who P ds here u v way) (h : ds.length = 1) : ds = [0] ∧ here = 0 := by
  have h1 := T.head
  have h2 := T.last
  match ds, h, h1, h2 with
  | [a], _, h1, h2 =>
    simp at h1 h2
    subst h1
    exact ⟨rfl, h2.symm⟩
theorem TI.row (T : TI n M who P ds here u v way) (B : PB n who P) (h2 : 2 ≤ ds.length) {k : Nat} (hk : k ∈ ds) (hz : P k ≠ 0) {j : Nat} (a : 1 ≤ j) (b : j ≤ n) : 0 ≤ slk M u v (P k) j := by
  by_cases e : k = 0
  · subst e
    rw [B.p0]
    exact T.feaw h2 j a b
  · exact T.fea (P k) (by omega) (B.pl k (by omega) (T.le k hk)) j a b
/-- a look at a room: it is nearer from here -/
theorem Bef.near (T : TI n M who P ds here u v way) (B : PB n who P) (hz : P here ≠ 0) {j : Nat} (a : 1 ≤ j) (b : j ≤ n) (h : Bef M P ds here u v mv way j) (hlt : ∀ m, mv j = some m → slk M u v (P here) j < m) :
    Aft M P ds u v (fset mv j (some (slk M u v (P here) j))) (fset way j here) j := by
  refine ⟨_, fset_same _ _ _, fun h2 => T.row B h2 T.hereIn hz a b, fun k hk => ?_, ?_, ?_⟩
  · by_cases e : k = here
    · subst e
      exact Int.le_refl _
    · rcases h with ⟨h1, _⟩ | ⟨m, e1, _, h3, _⟩
      · obtain ⟨e1, e2⟩ := T.one h1
        rw [e1] at hk
        simp at hk
        exact absurd (hk.trans e2.symm) e
      · have := hlt m e1
        have := h3 k hk e
        omega
  · rw [fset_same]
    exact T.hereIn
  · rw [fset_same]
theorem Bef.stay {m : Int} {j : Nat} (h : Bef M P ds here u v mv way j) (e : mv j = some m) (hge : m ≤ slk M u v (P here) j) : Aft M P ds u v mv way j := by
  rcases h with ⟨_, h2⟩ | ⟨m', e1, h0, h3, h4, h5⟩
  · rw [h2] at e
    cases e
  · rw [e1] at e
    cases e
    refine ⟨m, e1, fun _ => h0, fun k hk => ?_, h4, h5⟩
    by_cases ek : k = here
    · subst ek
      exact hge
    · exact h3 k hk ek
theorem Aft.congr {mv' : Nat → Option Int} {way' : Nat → Nat} {j : Nat} (h : Aft M P ds u v mv way j) (e1 : mv' j = mv j) (e2 : way' j = way j) : Aft M P ds u v mv' way' j := by
  unfold Aft
  rw [e1, e2]
  exact h
theorem Bef.congr {mv' : Nat → Option Int} {way' : Nat → Nat} {j : Nat} (h : Bef M P ds here u v mv way j) (e1 : mv' j = mv j) (e2 : way' j = way j) : Bef M P ds here u v mv' way' j := by
  unfold Bef
  rw [e1, e2]
  exact h
theorem TI.congr {way' : Nat → Nat} (T : TI n M who P ds here u v way) (e : ∀ j, j ∈ ds → way' j = way j) : TI n M who P ds here u v way' :=
  ⟨T.nd, T.le, T.head, T.last, T.used, fun t j h ht => by rw [e j (List.mem_of_getElem? h)]; exact T.tree t j h ht, T.fea, T.feaw, T.tig⟩
/-- people of rooms reached bear more, those rooms less -/
def uAdd (P : Nat → Nat) (L : List Nat) (by_ : Int) (u : Nat → Int) : Nat → Int := fun i => if i ∈ L.map P then u i + by_ else u i
def vSub (L : List Nat) (by_ : Int) (v : Nat → Int) : Nat → Int := fun j => if j ∈ L then v j - by_ else v j
theorem uAdd_nil (by_ : Int) : uAdd P [] by_ u = u := by
  funext i
  exact if_neg (by simp)
theorem vSub_nil (by_ : Int) : vSub [] by_ v = v := by
  funext i
  exact if_neg (by simp)
theorem uAdd_snoc {L : List Nat} {by_ : Int} {j : Nat} (h : P j ∉ L.map P) : fset (uAdd P L by_ u) (P j) (uAdd P L by_ u (P j) + by_) = uAdd P (L ++ [j]) by_ u := by
  funext i
  unfold uAdd
  by_cases e : i = P j
  · subst e
    rw [fset_same, if_neg h, if_pos (by simp)]
  · rw [fset_ne _ _ e]
    by_cases h2 : i ∈ L.map P
    · rw [if_pos h2, if_pos (by rw [List.map_append]; exact List.mem_append_left _ h2)]
    · rw [if_neg h2, if_neg (by
        rw [List.map_append, List.mem_append]
        intro q
        rcases q with q | q
        · exact h2 q
        · simp at q
          exact e q)]
theorem vSub_snoc {L : List Nat} {by_ : Int} {j : Nat} (h : j ∉ L) : fset (vSub L by_ v) j (vSub L by_ v j - by_) = vSub (L ++ [j]) by_ v := by
  funext i
  unfold vSub
  by_cases e : i = j
  · subst e
    rw [fset_same, if_neg h, if_pos (by simp)]
  · rw [fset_ne _ _ e]
    by_cases h2 : i ∈ L
    · rw [if_pos h2, if_pos (List.mem_append_left _ h2)]
    · rw [if_neg h2, if_neg (by
        rw [List.mem_append]
        intro q
        rcases q with q | q
        · exact h2 q
        · simp at q
          exact e q)]
def mvSub (ds : List Nat) (by_ : Int) (mv : Nat → Option Int) : Nat → Option Int := fun j => if j ∈ ds then mv j else (mv j).map (· - by_)
theorem TI.nz (T : TI n M who P ds here u v way) (hz : P here ≠ 0) : ∀ j, j ∈ ds → P j ≠ 0 := fun j hj => by
  by_cases e : j = here
  · rw [e]
    exact hz
  · exact T.used j hj e
theorem TI.mapIn (T : TI n M who P ds here u v way) (B : PB n who P) (hz : P here ≠ 0) {j : Nat} (hj : j ≤ n) : P j ∈ ds.map P ↔ j ∈ ds := by
  constructor
  · intro h
    obtain ⟨k, hk, e⟩ := List.mem_map.mp h
    have := B.inj k j (T.le k hk) hj e (T.nz hz k hk)
    rw [← this]
    exact hk
  · exact fun h => List.mem_map_of_mem h
/-- the search goes on from the next room -/
theorem TI.next (T : TI n M who P ds here u v way) (B : PB n who P) (hz : P here ≠ 0) (A : ∀ j, 1 ≤ j → j ≤ n → j ∉ ds → Aft M P ds u v mv way j) {by_ : Int} (hmin : ∀ j m, 1 ≤ j → j ≤ n → j ∉ ds → mv j = some m → by_ ≤ m)
    (hat : ∃ j, 1 ≤ j ∧ j ≤ n ∧ j ∉ ds ∧ mv j = some by_) {k : Nat} (k1 : 1 ≤ k) (kn : k ≤ n) (kd : k ∉ ds) (ke : mv k = some by_) :
    TI n M who P (ds ++ [k]) k (uAdd P ds by_ u) (vSub ds by_ v) way ∧ ∀ j, 1 ≤ j → j ≤ n → j ∉ ds ++ [k] → Bef M P (ds ++ [k]) k (uAdd P ds by_ u) (vSub ds by_ v) (mvSub ds by_ mv) way j := by
  -- the four ways that a person's and a room's sum goes
  have s11 : ∀ i j, i ∈ ds.map P → j ∈ ds → slk M (uAdd P ds by_ u) (vSub ds by_ v) i j = slk M u v i j := fun i j hi hj => by
    unfold slk uAdd vSub
    rw [if_pos hi, if_pos hj]
    omega
  have s10 : ∀ i j, i ∈ ds.map P → j ∉ ds → slk M (uAdd P ds by_ u) (vSub ds by_ v) i j = slk M u v i j - by_ := fun i j hi hj => by
    unfold slk uAdd vSub
    rw [if_pos hi, if_neg hj]
    omega
  have s01 : ∀ i j, i ∉ ds.map P → j ∈ ds → slk M (uAdd P ds by_ u) (vSub ds by_ v) i j = slk M u v i j + by_ := fun i j hi hj => by
    unfold slk uAdd vSub
    rw [if_neg hi, if_pos hj]
    omega
  have s00 : ∀ i j, i ∉ ds.map P → j ∉ ds → slk M (uAdd P ds by_ u) (vSub ds by_ v) i j = slk M u v i j := fun i j hi hj => by
    unfold slk uAdd vSub
    rw [if_neg hi, if_neg hj]
  have bnn : 2 ≤ ds.length → 0 ≤ by_ := fun h2 => by
    obtain ⟨j, a, b, c, e⟩ := hat
    obtain ⟨m, e1, h0, _⟩ := A j a b c
    rw [e] at e1
    cases e1
    exact h0 h2
  have below : ∀ i j, i ∈ ds.map P → 1 ≤ j → j ≤ n → j ∉ ds → by_ ≤ slk M u v i j := fun i j hi a b c => by
    obtain ⟨k', hk', rfl⟩ := List.mem_map.mp hi
    obtain ⟨m, e1, _, h3, _⟩ := A j a b c
    have h1 := hmin j m a b c e1
    have h2 := h3 k' hk'
    omega
  have two : ∀ j, 1 ≤ j → j ∈ ds → 2 ≤ ds.length := fun j a h => by
    refine Classical.byContradiction fun hc => ?_
    have := T.pos
    obtain ⟨e, _⟩ := T.one (by omega)
    rw [e] at h
    simp at h
    omega
  have fea' : ∀ i, (∀ j, 1 ≤ j → j ≤ n → j ∈ ds ∨ i ∉ ds.map P → 0 ≤ slk M u v i j) → ∀ j, 1 ≤ j → j ≤ n → 0 ≤ slk M (uAdd P ds by_ u) (vSub ds by_ v) i j := fun i hf j a b => by
    by_cases hi : i ∈ ds.map P <;> by_cases hj : j ∈ ds
    · rw [s11 i j hi hj]
      exact hf j a b (.inl hj)
    · rw [s10 i j hi hj]
      have := below i j hi a b hj
      omega
    · rw [s01 i j hi hj]
      have := hf j a b (.inl hj)
      have := bnn (two j a hj)
      omega
    · rw [s00 i j hi hj]
      exact hf j a b (.inr hi)
  have len : (ds ++ [k]).length = ds.length + 1 := by simp
  obtain ⟨mk, ek1, _, _, ek4, ek5⟩ := A k k1 kn kd
  rw [ke] at ek1
  cases ek1
  refine ⟨⟨?_, fun j hj => ?_, ?_, ?_, fun j hj hne => ?_, fun t j e ht => ?_, fun i a b => fea' i fun j c d _ => T.fea i a b j c d, fun _ => fea' who fun j c d q => ?_, fun j a b z => ?_⟩, fun j a b c => .inr ?_⟩
  · rw [List.nodup_append]
    refine ⟨T.nd, by simp, fun x hx y hy e => ?_⟩
    simp at hy
    subst hy
    exact kd (e ▸ hx)
  · rcases List.mem_append.mp hj with h | h
    · exact T.le j h
    · simp at h
      omega
  · rw [List.getElem?_append_left T.pos]
    exact T.head
  · rw [len]
    simp
  · rcases List.mem_append.mp hj with h | h
    · exact T.nz hz j h
    · simp at h
      exact absurd h hne
  · by_cases hlt : t < ds.length
    · rw [List.getElem?_append_left hlt] at e
      obtain ⟨t', h1, h2, h3⟩ := T.tree t j e ht
      refine ⟨t', h1, ?_, ?_⟩
      · rw [List.getElem?_append_left (by omega)]
        exact h2
      · rw [s11 _ _ (List.mem_map_of_mem (List.mem_of_getElem? h2)) (List.mem_of_getElem? e)]
        exact h3
    · have htl : t < (ds ++ [k]).length := (List.getElem?_eq_some_iff.mp e).1
      have et : t = ds.length := by omega
      subst et
      have e' : k = j := by
        simp at e
        exact e
      subst e'
      obtain ⟨t', h2⟩ := List.getElem?_of_mem ek4
      have h1 : t' < ds.length := (List.getElem?_eq_some_iff.mp h2).1
      refine ⟨t', h1, ?_, ?_⟩
      · rw [List.getElem?_append_left h1]
        exact h2
      · rw [s10 _ _ (List.mem_map_of_mem ek4) kd]
        omega
  · rcases q with q | q
    · exact T.feaw (two j c q) j c d
    · refine absurd ?_ q
      rw [← B.p0]
      exact List.mem_map_of_mem T.zero
  · by_cases hj : j ∈ ds
    · rw [s11 _ _ (List.mem_map_of_mem hj) hj]
      exact T.tig j a b z
    · rw [s00 _ _ (fun q => hj ((T.mapIn B hz b).mp q)) hj]
      exact T.tig j a b z
  · have hjd : j ∉ ds := fun q => c (List.mem_append_left _ q)
    obtain ⟨m, e1, _, h3, h4, h5⟩ := A j a b hjd
    have h6 := hmin j m a b hjd e1
    refine ⟨m - by_, ?_, by omega, fun k' hk' hne => ?_, List.mem_append_left _ h4, ?_⟩
    · show (if j ∈ ds then mv j else (mv j).map (· - by_)) = some (m - by_)
      rw [if_neg hjd, e1]
      rfl
    · have hk2 : k' ∈ ds := by
        rcases List.mem_append.mp hk' with h | h
        · exact h
        · simp at h
          exact absurd h hne
      rw [s10 _ _ (List.mem_map_of_mem hk2) hjd]
      have := h3 k' hk2
      omega
    · rw [s10 _ _ (List.mem_map_of_mem h4) hjd, ← h5]
/-- a room is still there -/
theorem TI.more (T : TI n M who P ds here u v way) (B : PB n who P) (hz : P here ≠ 0) : ∃ j, 1 ≤ j ∧ j ≤ n ∧ j ∉ ds := by
  obtain ⟨j, a, b, e⟩ := B.free
  exact ⟨j, a, b, fun h => T.nz hz j h e⟩
/-- of n + 1 rooms no more are reached -/
theorem nodup_len : ∀ (n : Nat) (l : List Nat), l.Nodup → (∀ j, j ∈ l → j ≤ n) → l.length ≤ n + 1 := fun n l h1 h2 => by
  refine Classical.byContradiction fun hc => ?_
  obtain ⟨i, j, hij, hj, e⟩ := twice (n + 1) (fun i => l.getD i 0) fun i hi => by
    have hil : i < l.length := by omega
    have e : l.getD i 0 = l[i] := by simp [hil]
    have := h2 l[i] (List.getElem_mem hil)
    show l.getD i 0 < n + 1
    omega
  have a : i < l.length := by omega
  have b : j < l.length := by omega
  have e : l.getD i 0 = l.getD j 0 := e
  have e1 : l.getD i 0 = l[i] := by simp [a]
  have e2 : l.getD j 0 = l[j] := by simp [b]
  rw [e1, e2] at e
  have := (List.getElem_inj h1).mp e
  omega
theorem TI.len (T : TI n M who P ds here u v way) : ds.length ≤ n + 1 := nodup_len n ds T.nd T.le
/-! ### back along the way: the hole stands at t in ds -/
structure AI (n : Nat) (M : Nat → Nat → Int) (who : Nat) (P : Nat → Nat) (ds : List Nat) (u v : Nat → Int) (way : Nat → Nat) (t c : Nat) (p : Nat → Nat) : Prop where
  at_ : ds[t]? = some c
  old : ∀ t' j, t' < t → ds[t']? = some j → p j = P j
  ple : ∀ j, 1 ≤ j → j ≤ n → j ≠ c → p j ≤ who
  inj : ∀ j k, j ≤ n → k ≤ n → j ≠ c → k ≠ c → p j = p k → p j ≠ 0 → j = k
  sur : ∀ i, 1 ≤ i → i ≤ who → ∃ j, j ≤ n ∧ j ≠ c ∧ p j = i
  tig : ∀ j, 1 ≤ j → j ≤ n → j ≠ c → p j ≠ 0 → slk M u v (p j) j = 0
theorem AI.start (T : TI n M who P ds here u v way) (B : PB n who P) (hz : P here = 0) : AI n M who P ds u v way (ds.length - 1) here P := by
  refine ⟨T.last, fun _ _ _ _ => rfl, fun j a b _ => Nat.le_of_lt (B.pl j a b), fun j k a b _ _ e z => B.inj j k a b e z, fun i a b => ?_, fun j a b _ z => T.tig j a b z⟩
  by_cases e : i = who
  · have := B.p0
    have := B.w0
    refine ⟨0, Nat.zero_le _, fun q => ?_, by omega⟩
    rw [← q] at hz
    omega
  · obtain ⟨j, a1, a2, a3⟩ := B.sur i a (by omega)
    refine ⟨j, a2, fun q => ?_, a3⟩
    rw [q] at a3
    omega
theorem AI.step {t c : Nat} {p : Nat → Nat} (T : TI n M who P ds here u v way) (B : PB n who P) (A : AI n M who P ds u v way t c p) (hc : c ≠ 0) : ∃ t', t' < t ∧ AI n M who P ds u v way t' (way c) (fset p c (p (way c))) := by
  have ht : 0 < t := by
    refine Classical.byContradiction fun q => ?_
    have e : t = 0 := by omega
    subst e
    have h := A.at_
    rw [T.head] at h
    cases h
    exact hc rfl
  obtain ⟨t', h1, h2, h3⟩ := T.tree t c A.at_ ht
  have e1 : p (way c) = P (way c) := A.old t' _ h1 h2
  have ix : ∀ {a b : Nat} {x : Nat}, ds[a]? = some x → ds[b]? = some x → a = b := fun {a b x} ha hb => by
    obtain ⟨l1, q1⟩ := List.getElem?_eq_some_iff.mp ha
    obtain ⟨l2, q2⟩ := List.getElem?_eq_some_iff.mp hb
    exact (List.getElem_inj T.nd).mp (q1.trans q2.symm)
  have hwc : way c ≠ c := fun q => by
    rw [q] at h2
    have := ix h2 A.at_
    omega
  have hcn : c ≤ n := T.le c (List.mem_of_getElem? A.at_)
  have hwn : way c ≤ n := T.le _ (List.mem_of_getElem? h2)
  refine ⟨t', h1, h2, fun t2 j ht2 e => ?_, fun j a b hne => ?_, fun j k a b hj hk e z => ?_, fun i a b => ?_, fun j a b hne z => ?_⟩
  · have hjc : j ≠ c := fun q => by
      rw [q] at e
      have := ix e A.at_
      omega
    rw [fset_ne _ _ hjc]
    exact A.old t2 j (by omega) e
  · by_cases ejc : j = c
    · rw [ejc, fset_same]
      by_cases e0 : way c = 0
      · rw [e1, e0, B.p0]
        exact Nat.le_refl _
      · exact A.ple (way c) (by omega) hwn hwc
    · rw [fset_ne _ _ ejc]
      exact A.ple j a b ejc
  · by_cases ejc : j = c <;> by_cases ekc : k = c
    · omega
    · rw [ejc, fset_same, fset_ne _ _ ekc] at e
      rw [ejc, fset_same] at z
      exact absurd (A.inj (way c) k hwn b hwc ekc e z).symm hk
    · rw [ekc, fset_same, fset_ne _ _ ejc] at e
      rw [fset_ne _ _ ejc] at z
      exact absurd (A.inj j (way c) a hwn ejc hwc e z) hj
    · rw [fset_ne _ _ ejc] at e z
      rw [fset_ne _ _ ekc] at e
      exact A.inj j k a b ejc ekc e z
  · obtain ⟨j, q1, q2, q3⟩ := A.sur i a b
    by_cases e : j = way c
    · refine ⟨c, hcn, fun q => hwc q.symm, ?_⟩
      rw [fset_same, ← e]
      exact q3
    · exact ⟨j, q1, e, by rw [fset_ne _ _ q2]; exact q3⟩
  · by_cases ejc : j = c
    · subst ejc
      rw [fset_same, e1]
      exact h3
    · rw [fset_ne _ _ ejc] at z
      rw [fset_ne _ _ ejc]
      exact A.tig j a b ejc z
theorem AI.done {t : Nat} {p : Nat → Nat} (T : TI n M who P ds here u v way) (A : AI n M who P ds u v way t 0 p) (h2 : 2 ≤ ds.length) : HI n M (who + 1) u v p where
  pl := fun j a b => Nat.lt_succ_of_le (A.ple j a b (by omega))
  inj := fun j k a b c d e z => A.inj j k b d (by omega) (by omega) e z
  sur := fun i a b => by
    obtain ⟨j, q1, q2, q3⟩ := A.sur i a (by omega)
    exact ⟨j, by omega, q1, q3⟩
  fea := fun i a b j c d => by
    by_cases e : i = who
    · rw [e]
      exact T.feaw h2 j c d
    · exact T.fea i a (by omega) j c d
  tig := fun j a b z => A.tig j a b (by omega) z
/-- at the end each has a room, and prices are there -/
theorem HI.best {p : Nat → Nat} (h : HI n M (n + 1) u v p) : (∀ j, 1 ≤ j → j ≤ n → 1 ≤ p j) ∧ ∀ g : Nat → Nat, (∀ j, 1 ≤ j → j ≤ n → g (p j - 1) = j - 1) → Pm n g ∧ ∀ o, Own n g o → Pot n 1 (gapw M o) (fun j => - v (j + 1)) := by
  have pos : ∀ j, 1 ≤ j → j ≤ n → 1 ≤ p j := fun j a b => by
    -- each of the people has a room; the rooms of people 1 .. n are all rooms
    have ex : ∀ i, ∃ j, i < n → (1 ≤ j ∧ j ≤ n ∧ p j = i + 1) := fun i => by
      by_cases hi : i < n
      · obtain ⟨j, q⟩ := h.sur (i + 1) (by omega) (by omega)
        exact ⟨j, fun _ => q⟩
      · exact ⟨0, fun q => absurd q hi⟩
    obtain ⟨i, hi, e⟩ := pigeon n (fun i => Classical.choose (ex i) - 1) (fun i hi => by
      have q := Classical.choose_spec (ex i) hi
      show Classical.choose (ex i) - 1 < n
      omega) (fun i k hi hk e => by
      have q := Classical.choose_spec (ex i) hi
      have q' := Classical.choose_spec (ex k) hk
      have e : Classical.choose (ex i) - 1 = Classical.choose (ex k) - 1 := e
      have e2 : Classical.choose (ex i) = Classical.choose (ex k) := by omega
      have q2 := q.2.2
      rw [e2, q'.2.2] at q2
      omega) (j - 1) (by omega)
    have q := Classical.choose_spec (ex i) hi
    have e : Classical.choose (ex i) - 1 = j - 1 := e
    have e2 : Classical.choose (ex i) = j := by omega
    rw [e2] at q
    omega
  refine ⟨pos, fun g hg => ?_⟩
  have ge : ∀ i, i < n → ∃ j, 1 ≤ j ∧ j ≤ n ∧ p j = i + 1 ∧ g i = j - 1 := fun i hi => by
    obtain ⟨j, a, b, c⟩ := h.sur (i + 1) (by omega) (by omega)
    refine ⟨j, a, b, c, ?_⟩
    have := hg j a b
    rw [c] at this
    exact this
  have G : Pm n g := ⟨fun i hi => by
    obtain ⟨j, a, b, c, d⟩ := ge i hi
    omega, fun i k hi hk e => by
    obtain ⟨j, a, b, c, d⟩ := ge i hi
    obtain ⟨j', a', b', c', d'⟩ := ge k hk
    have : j = j' := by omega
    subst this
    omega⟩
  refine ⟨G, fun o O a b ha hb => ?_⟩
  obtain ⟨j, a1, a2, a3, a4⟩ := ge (o b) (O.lt b hb)
  rw [O.go b hb] at a4
  have ej : j = b + 1 := by omega
  subst ej
  have t := h.tig (b + 1) (by omega) (by omega) (by omega)
  have f := h.fea (p (b + 1)) (by omega) (h.pl (b + 1) (by omega) (by omega)) (a + 1) (by omega) (by omega)
  unfold slk at t f
  rw [a3] at t f
  simp only [Nat.add_sub_cancel] at t f
  show - v (b + 1) ≤ - v (a + 1) + 1 * (M (o b) b - M (o b) a)
  omega
end
end RP
namespace RP
theorem sumN_front : ∀ (m : Nat) (h : Nat → Int), sumN (m + 1) h = h 0 + sumN m (fun i => h (i + 1))
  | 0, h => by
    show (0 : Int) + h 0 = h 0 + 0
    omega
  | m + 1, h => by
    have ih := sumN_front m h
    show sumN (m + 1) h + h (m + 1) = h 0 + (sumN m (fun i => h (i + 1)) + h (m + 1))
    omega
theorem sumN_neg (n : Nat) (f : Nat → Int) : sumN n (fun i => - f i) = - sumN n f := by
  have h := sumN_add n f (fun i => - f i)
  rw [sumN_congr (g := fun _ => (0 : Int)) fun i _ => by omega, sumN_zero] at h
  omega
/-! ### rings of people -/
/-- what one says more of another's room -/
def say (M : Nat → Nat → Int) (g : Nat → Nat) (a b : Nat) : Int := M a (g b) - M a (g a)
def nxt (k i : Nat) : Nat := if i + 1 < k then i + 1 else 0
def prv (k i : Nat) : Nat := if i = 0 then k - 1 else i - 1
def gainN (M : Nat → Nat → Int) (g : Nat → Nat) (f : Nat → Nat) (k : Nat) : Int := sumN k fun i => say M g (f i) (f (nxt k i))
def gainP (M : Nat → Nat → Int) (g : Nat → Nat) (f : Nat → Nat) (k : Nat) : Int := sumN k fun i => say M g (f (prv k i)) (f i)
theorem gain_eq {M : Nat → Nat → Int} {g f : Nat → Nat} {k : Nat} : gainP M g f k = gainN M g f k := by
  cases k with
  | zero => rfl
  | succ m =>
    unfold gainP gainN
    rw [sumN_front]
    show say M g (f (prv (m + 1) 0)) (f 0) + sumN m _ = sumN m _ + say M g (f m) (f (nxt (m + 1) m))
    have e1 : prv (m + 1) 0 = m := by unfold prv; rw [if_pos rfl]; omega
    have e2 : nxt (m + 1) m = 0 := by unfold nxt; rw [if_neg (by omega)]
    rw [e1, e2]
    have e3 : sumN m (fun i => say M g (f (prv (m + 1) (i + 1))) (f (i + 1))) = sumN m (fun i => say M g (f i) (f (nxt (m + 1) i))) := sumN_congr fun i hi => by
      have a : prv (m + 1) (i + 1) = i := by unfold prv; rw [if_neg (by omega)]; omega
      have b : nxt (m + 1) i = i + 1 := by unfold nxt; rw [if_pos (by omega)]
      rw [a, b]
    rw [e3]
    omega
/-- people, none twice, by which all say more -/
structure RingP (n : Nat) (M : Nat → Nat → Int) (g f : Nat → Nat) (k : Nat) : Prop where
  pos : 0 < k
  le : k ≤ n
  lt : ∀ i, i < k → f i < n
  inj : ∀ i j, i < k → j < k → f i = f j → i = j
  gain : 0 < gainN M g f k
theorem Ringed.people {n : Nat} {M : Nat → Nat → Int} {g o : Nat → Nat} {ahead : Nat → Nat} {x k : Nat} (R : Ringed n (gapw M o) ahead x k) (O : Own n g o) : RingP n M g (fun m => o (itf ahead m x)) k where
  pos := R.pos
  le := R.le
  lt := fun i _ => O.lt _ (R.lt i)
  inj := fun i j hi hj e => R.inj i j hi hj (O.inj (R.lt i) (R.lt j) e)
  gain := by
    have h := R.neg
    have e : gainN M g (fun m => o (itf ahead m x)) k = sumN k (fun m => - gapw M o (itf ahead (m + 1) x) (itf ahead m x)) := sumN_congr fun i hi => by
      have e2 : itf ahead (nxt k i) x = itf ahead (i + 1) x := by
        unfold nxt
        split
        · rfl
        · have : i + 1 = k := by omega
          rw [this, R.back]
          rfl
      show M (o (itf ahead i x)) (g (o (itf ahead (nxt k i) x))) - M (o (itf ahead i x)) (g (o (itf ahead i x))) = - (M (o (itf ahead i x)) (itf ahead i x) - M (o (itf ahead i x)) (itf ahead (i + 1) x))
      rw [e2, O.go _ (R.lt _), O.go _ (R.lt _)]
      omega
    rw [e, sumN_neg]
    omega
/-- a ring of people bars prices -/
theorem RingP.bars {n : Nat} {M : Nat → Nat → Int} {r : Int} {g f : Nat → Nat} {k : Nat} {p : Nat → Int} (R : RingP n M g f k) (gl : ∀ i, i < n → g i < n) (F : Fit n M r g p) : False := by
  have hn : 0 < n := Nat.lt_of_lt_of_le R.pos R.le
  have nl : ∀ i, i < k → nxt k i < k := fun i hi => by
    unfold nxt
    split <;> omega
  have h1 : sumN k (fun i => (n : Int) * say M g (f i) (f (nxt k i))) ≤ sumN k (fun i => p (g (f (nxt k i))) - p (g (f i))) := sumN_le fun i hi => by
    have h := F.no (f i) (g (f (nxt k i))) (R.lt i hi) (gl _ (R.lt _ (nl i hi)))
    unfold say
    rw [Int.mul_sub]
    omega
  have h2 : sumN k (fun i => p (g (f (nxt k i))) - p (g (f i))) = 0 := by
    obtain ⟨m, rfl⟩ : ∃ m, k = m + 1 := ⟨k - 1, by have := R.pos; omega⟩
    rw [sumN_sub (m + 1) (fun i => p (g (f (nxt (m + 1) i)))) (fun i => p (g (f i))), sumN_front m (fun i => p (g (f i)))]
    show sumN m _ + p (g (f (nxt (m + 1) m))) - (p (g (f 0)) + sumN m _) = 0
    have a : sumN m (fun i => p (g (f (nxt (m + 1) i)))) = sumN m (fun i => p (g (f (i + 1)))) := sumN_congr fun i hi => by
      have b : nxt (m + 1) i = i + 1 := by unfold nxt; rw [if_pos (by omega)]
      rw [b]
    have b : nxt (m + 1) m = 0 := by unfold nxt; rw [if_neg (by omega)]
    rw [a, b]
    omega
  rw [sumN_mul, h2] at h1
  have h3 : (n : Int) * sumN k (fun i => say M g (f i) (f (nxt k i))) ≤ (n : Int) * 0 := by omega
  have h4 := Int.le_of_mul_le_mul_left h3 (by omega)
  have h5 := R.gain
  unfold gainN at h5
  omega
/-- what can be priced -/
def Can (n : Nat) (M : Nat → Nat → Int) (g : Nat → Nat) : Prop := ∃ r p, Fit n M r g p
theorem can_pot {n : Nat} {M : Nat → Nat → Int} {g o : Nat → Nat} (G : Pm n g) (O : Own n g o) {q : Nat → Int} (P : Pot n 1 (gapw M o) q) (r : Int) : ∃ p, Fit n M r g p := ⟨_, pot_fit P G O⟩
theorem Can.at_ {n : Nat} {M : Nat → Nat → Int} {g : Nat → Nat} (h : Can n M g) (G : Pm n g) (r : Int) : (∃ p, Fit n M r g p) := by
  obtain ⟨r0, p, F⟩ := h
  -- the same prices, all as much more: by n * (r - r0) together
  refine ⟨fun i => p i + (r - r0), ?_, fun i j hi hj => ?_⟩
  · rw [sumN_add n p (fun _ => r - r0), sumN_const, F.sum, Int.mul_sub]
    omega
  · have := F.no i j hi hj
    omega
/-- the bounds are told by what they are -/
theorem Dist.uniq {n : Nat} {w D D' : Nat → Nat → Int} (d : Dist n w D) (d' : Dist n w D') {i j : Nat} (hi : i < n) (hj : j < n) : D i j = D' i j := by
  have a := d.low 1 _ (by decide) (d'.from hi) i j hi hj
  have b := d'.low 1 _ (by decide) (d.from hi) i j hi hj
  have := d.dg i hi
  have := d'.dg i hi
  omega
theorem Dist.congr {n : Nat} {w w' D : Nat → Nat → Int} (d : Dist n w D) (e : ∀ i j, i < n → j < n → w i j = w' i j) : Dist n w' D where
  le := fun i j hi hj => by rw [← e i j hi hj]; exact d.le i j hi hj
  dg := d.dg
  tri := d.tri
  low := fun c q hc P => d.low c q hc fun i j hi hj => by rw [e i j hi hj]; exact P i j hi hj
theorem gapw_congr {n : Nat} {M : Nat → Nat → Int} {g o o' : Nat → Nat} (O : Own n g o) (O' : Own n g o') {i j : Nat} (hj : j < n) : gapw M o i j = gapw M o' i j := by
  unfold gapw
  rw [O.uniq O' hj]
theorem Pot.congr {n : Nat} {c : Int} {w w' : Nat → Nat → Int} {q : Nat → Int} (h : Pot n c w q) (e : ∀ i j, i < n → j < n → w i j = w' i j) : Pot n c w' q := fun i j hi hj => by
  rw [← e i j hi hj]
  exact h i j hi hj
/-- priced by whole numbers at some rent: the gaps bear a pot -/
theorem Fit.pot1 {n : Nat} {M : Nat → Nat → Int} {r : Int} {g o : Nat → Nat} {p : Nat → Int} (F : Fit n M r g p) (O : Own n g o) (hn : 0 < n) : Pot n 1 (gapw M o) (fun j => p j / (n : Int)) := fun i j hi hj => by
  have h := F.pot O i j hi hj
  have h1 : p j / (n : Int) ≤ (p i + (n : Int) * gapw M o i j) / (n : Int) := Int.ediv_le_ediv (by omega) h
  rw [Int.add_mul_ediv_left _ _ (by omega)] at h1
  show p j / (n : Int) ≤ p i / (n : Int) + 1 * gapw M o i j
  omega
theorem can_iff {n : Nat} {M : Nat → Nat → Int} {g o : Nat → Nat} (G : Pm n g) (O : Own n g o) (hn : 0 < n) : Can n M g ↔ ∃ q, Pot n 1 (gapw M o) q :=
  ⟨fun ⟨_, _, F⟩ => ⟨_, F.pot1 O hn⟩, fun ⟨_, P⟩ => ⟨0, _, pot_fit P G O⟩⟩
/-! ### the bounds in place: turn k, places ahead of (u, v) done -/
def FwIn (n : Nat) (w : Nat → Nat → Int) (k u v : Nat) (D : Nat → Nat → Int) : Prop := ∀ i j, i < n → j < n → D i j = if i < u ∨ (i = u ∧ j < v) then fw w (k + 1) i j else fw w k i j
section
variable {n : Nat} {w : Nat → Nat → Int} {k u v : Nat} {D : Nat → Nat → Int} {q : Nat → Int}
theorem FwIn.start : FwIn n w 0 0 0 w := fun i j _ _ => by
  rw [if_neg (by omega)]
  rfl
theorem FwIn.get (P : Pot n 1 w q) (h0 : ∀ i, i < n → w i i = 0) (F : FwIn n w k u v D) (hk : k < n) (hu : u < n) (hv : v < n) : min (D u v) (D u k + D k v) = fw w (k + 1) u v := by
  have e1 : D u v = fw w k u v := by rw [F u v hu hv, if_neg (by omega)]
  have e2 : D u k = fw w k u k := by
    rw [F u k hu hk]
    split
    · exact fw_col P h0 hk hu
    · rfl
  have e3 : D k v = fw w k k v := by
    rw [F k v hk hv]
    split
    · exact fw_row P h0 hk hv
    · rfl
  rw [e1, e2, e3]
  rfl
theorem FwIn.step (F : FwIn n w k u v D) : FwIn n w k u (v + 1) (fun i => if i = u then fset (D u) v (fw w (k + 1) u v) else D i) := fun i j hi hj => by
  show (if i = u then fset (D u) v (fw w (k + 1) u v) else D i) j = _
  by_cases ei : i = u
  · rw [if_pos ei]
    by_cases ej : j = v
    · rw [ej, fset_same, if_pos (by omega), ei]
    · rw [fset_ne _ _ ej, F u j (ei ▸ hi) hj, ei]
      by_cases h : j < v
      · rw [if_pos (by omega), if_pos (by omega)]
      · rw [if_neg (by omega), if_neg (by omega)]
  · rw [if_neg ei, F i j hi hj]
    by_cases h : i < u
    · rw [if_pos (by omega), if_pos (by omega)]
    · rw [if_neg (by omega), if_neg (by omega)]
theorem FwIn.row (F : FwIn n w k u n D) : FwIn n w k (u + 1) 0 D := fun i j hi hj => by
  rw [F i j hi hj]
  by_cases h : i < u + 1
  · rw [if_pos (by omega), if_pos (by omega)]
  · rw [if_neg (by omega), if_neg (by omega)]
theorem FwIn.turn (F : FwIn n w k n 0 D) : FwIn n w (k + 1) 0 0 D := fun i j hi hj => by
  rw [F i j hi hj, if_pos (by omega), if_neg (by omega)]
theorem FwIn.done (F : FwIn n w n 0 0 D) : ∀ i j, i < n → j < n → D i j = fw w n i j := fun i j hi hj => by
  rw [F i j hi hj, if_neg (by omega)]
end
end RP
namespace RP
open PySem PySem.Spec PyProof.Rows L2
/-! ### defs, methods, classes by their promises; all may let exceptions out as far as the promise says -/
section
variable {P : Program} {w : World} {K : PySem.W.Frag} {mg : Str → Option Value} {base : Heap}
theorem fn_lift {k : Nat} {f : Addr} {fd : FuncData} {ps : List Str} {sp : Sp} (F : FnOk P w K mg base CX0 k f fd ps sp) : FnOk P w K mg base (L2.CX P w) k f fd ps sp :=
  ⟨F.len, fun A outer s H args us vs Q E hr he hb hv hs => codeAny_mono (F.run A outer s H args us vs Q E hr he hb hv hs) fun r s' q => by
    cases r with
    | ok fl =>
      cases fl with
      | ret u => exact q
      | next => exact q
      | brk => exact q
      | cont => exact q
    | error e => exact False.elim q⟩
end
/-- a def of the module by its name -/
structure Cl (P : Program) (w : World) (K : PySem.W.Frag) (mg : Str → Option Value) (base : Heap) (k : Nat) (x : Str) (sp : Sp) : Prop where
  ex : ∃ (f : Addr) (fd : FuncData) (ps : List Str), FnOk P w K mg base (L2.CX P w) k f fd ps sp ∧ mg x = some (.ref f) ∧ PySem.W.keepIn K (.ref f) = true ∧ Binds K fd ps []
/-- a method of the class at C -/
structure Mt (P : Program) (w : World) (K : PySem.W.Frag) (mg : Str → Option Value) (base : Heap) (k : Nat) (C : Addr) (m : Str) (sp : Sp) : Prop where
  ex : ∃ (f : Addr) (fd : FuncData) (ps : List Str), Cls K C ∧ Meth K C m f ∧ FnOk P w K mg base (L2.CX P w) k f fd ps sp ∧ Binds K fd ps []
/-- a class that is made by its name -/
structure Nw (P : Program) (w : World) (K : PySem.W.Frag) (mg : Str → Option Value) (base : Heap) (k : Nat) (x : Str) (C : Addr) (sp : Sp) : Prop where
  ex : ∃ (f : Addr) (fd : FuncData) (ps : List Str), Mk K C f ∧ FnOk P w K mg base (L2.CX P w) k f fd ps sp ∧ mg x = some (.ref C) ∧ Binds K fd ps []
/-- a name of the module that stands for a value -/
def GV (mg : Str → Option Value) (x : Str) (v : V) : Prop := ∃ u, mg x = some u ∧ RelV v u
/-- the built-ins that are asked for -/
structure Blt (mg : Str → Option Value) : Prop where
  len : mg "len" = none
  range : mg "range" = none
  list_ : mg "list" = none
  sum : mg "sum" = none
  zip : mg "zip" = none
  enumerate : mg "enumerate" = none
  min_ : mg "min" = none
  max_ : mg "max" = none
  sorted : mg "sorted" = none
  isinstance : mg "isinstance" = none
  all_ : mg "all" = none
  any_ : mg "any" = none
  int : mg "int" = none
  bool : mg "bool" = none
  str_ : mg "str" = none
  tuple : mg "tuple" = none
  abs : mg "abs" = none
  set_ : mg "set" = none
  ValueError : mg "ValueError" = none
section
variable {X : Cx} {k j : Nat} {C : Addr} {x m : Str} {sp : Sp} {p pos apos : Pos} {e o : Expr} {es : List Expr} {ta : TE} {t : TA} {E : XK}
theorem pe_k (c : Cl X.prog X.w X.K X.mg X.base k x sp) (hr : Room j X.A) (hk : k ≤ j) (hx : Passes (L2.CX X.prog X.w) X E) (hg : Gl X x) (ha : PA X (e :: es) t)
    (hdb : (x == ("__debug__" : Str)) = false := by decide) (he : starEach (e :: es) X.env = (false, eval e X.env) :: starEach es X.env := by rfl) (hpl : (backTo pos (starEach es X.env)).any (·.1) = false := by rfl) :
    PE X (.Call (.Name x p) (e :: es) [] pos) (tCall sp [] E t) := by
  obtain ⟨f, fd, ps, F, hm, kp, b⟩ := c.ex
  exact pe_call F (hr.mono hk) hg hm kp b .nil hx ha hdb he hpl
theorem pe_k0 (c : Cl X.prog X.w X.K X.mg X.base k x sp) (hr : Room j X.A) (hk : k ≤ j) (hx : Passes (L2.CX X.prog X.w) X E) (hg : Gl X x)
    (hdb : (x == ("__debug__" : Str)) = false := by decide) : PE X (.Call (.Name x p) [] [] pos) (tCall sp [] E tNil) := by
  obtain ⟨f, fd, ps, F, hm, kp, b⟩ := c.ex
  exact pe_call0 F (hr.mono hk) hg hm kp b .nil hx hdb
theorem pe_kS {E : L2.St → XK} (c : Cl X.prog X.w X.K X.mg X.base k x sp) (hr : Room j X.A) (hk : k ≤ j) (hx : ∀ σ, PassesAt (L2.CX X.prog X.w) X σ (E σ)) (hg : Gl X x) (ha : PA X (e :: es) t)
    (hdb : (x == ("__debug__" : Str)) = false := by decide) (he : starEach (e :: es) X.env = (false, eval e X.env) :: starEach es X.env := by rfl) (hpl : (backTo pos (starEach es X.env)).any (·.1) = false := by rfl) :
    PE X (.Call (.Name x p) (e :: es) [] pos) (tCallS sp E t) := by
  obtain ⟨f, fd, ps, F, hm, kp, b⟩ := c.ex
  exact pe_callS F (hr.mono hk) hg hm kp b hx ha (by assumption) (by assumption) (by assumption)
theorem pe_mk {pl : Sem Bool} (c : Mt X.prog X.w X.K X.mg X.base k C m sp) (hr : Room j X.A) (hk : k ≤ j) (hx : Passes (L2.CX X.prog X.w) X E) (he : PE X o ta) (ha : PA X (e :: es) t)
    (hst : starEach (e :: es) X.env = (false, eval e X.env) :: starEach es X.env := by rfl) (hpl : (backTo pos (starEach es X.env)).any (·.1) = false := by rfl)
    (ht : eval (.Call (.Attribute o m apos) (e :: es) [] pos) X.env = (do
      let ov ← eval o X.env
      standAt apos.atName
      let (f, first) ← holding [ov] (getMethod ov m pl)
      callWith pos f first (backTo pos (starEach (e :: es) X.env)) (backToKw pos (keywordEach [] X.env))) := by rfl) :
    PE X (.Call (.Attribute o m apos) (e :: es) [] pos) (tMeth C m sp [] E ta t) := by
  obtain ⟨f, fd, ps, c1, hm, F, b⟩ := c.ex
  exact pe_meth (pl := pl) he c1 hm F (hr.mono hk) b .nil hx ha hst hpl ht
theorem pe_nw (c : Nw X.prog X.w X.K X.mg X.base k x C sp) (hr : Room j X.A) (hk : k + 1 ≤ j) (hg : Gl X x) (ha : PA X (e :: es) t)
    (hdb : (x == ("__debug__" : Str)) = false := by decide) (he : starEach (e :: es) X.env = (false, eval e X.env) :: starEach es X.env := by rfl) (hpl : (backTo pos (starEach es X.env)).any (·.1) = false := by rfl) :
    PE X (.Call (.Name x p) (e :: es) [] pos) (tMake C sp [] E0 t) := by
  obtain ⟨f, fd, ps, M, F, hm, b⟩ := c.ex
  exact pe_make M F (hr.mono hk) hg hm b .nil passL ha hdb he hpl
theorem pe_gv {v : V} (h : GV X.mg x v) (hg : Gl X x) (hd : (x == ("__debug__" : Str)) = false := by decide) : PE X (.Name x pos) (tC v) := by
  obtain ⟨u, e1, e2⟩ := h
  exact pe_glob hg e1 e2 hd
/-- one of two readings -/
def tEither (t u : TE) : TE := fun σ H Q => t σ H Q ∨ u σ H Q
theorem pe_either {e : Expr} {t u : TE} (h1 : PE X e t) (h2 : PE X e u) : PE X e (tEither t u) :=
  ⟨fun pins s σ H Q I h => h.elim (h1.run pins s σ H Q I) (h2.run pins s σ H Q I)⟩
theorem op_mulX : OpR X (binaryOp .Mult) (rI (fun i j => IntMulOk i j) fun i j => .int (i * j)) := opI fun _ _ _ _ _ _ _ hc q => mul_int q hc
end
/-! ### how many there are in a set made of a list of ints -/
theorem step_mem (l : List Int) (a z : Int) : z ∈ step_dedup l a ↔ z ∈ l ∨ z = a := by
  unfold step_dedup
  split
  · next h =>
    obtain ⟨y, hy, e⟩ := List.any_eq_true.mp h
    have e : y = a := beq_iff_eq.mp e
    exact ⟨Or.inl, fun q => q.elim id fun e2 => by rw [e2, ← e]; exact hy⟩
  · rw [List.mem_append, List.mem_singleton]
theorem step_len (l : List Int) (a : Int) : (step_dedup l a).length = if a ∈ l then l.length else l.length + 1 := by
  unfold step_dedup
  by_cases h : a ∈ l
  · rw [if_pos h, if_pos (show (l.any fun x => x == a) = true from List.any_eq_true.mpr ⟨a, h, beq_self_eq_true a⟩)]
  · rw [if_neg h, if_neg (show ¬ (l.any fun x => x == a) = true from fun q => by
      obtain ⟨y, hy, e⟩ := List.any_eq_true.mp q
      have e : y = a := beq_iff_eq.mp e
      exact h (e ▸ hy)), List.length_append, List.length_singleton]
def met (ns : List Int) : List Int := ns.foldl step_dedup []
theorem foldl_met : ∀ (ns acc : List Int), (∀ z, z ∈ ns.foldl step_dedup acc ↔ z ∈ acc ∨ z ∈ ns) ∧ ((ns.foldl step_dedup acc).length ≤ acc.length + ns.length) ∧ ((ns.foldl step_dedup acc).length = acc.length + ns.length ↔ ns.Nodup ∧ ∀ z, z ∈ ns → z ∉ acc)
  | [], acc => by simp
  | a :: r, acc => by
    obtain ⟨h1, h2, h3⟩ := foldl_met r (step_dedup acc a)
    have hl := step_len acc a
    show (∀ z, z ∈ r.foldl step_dedup (step_dedup acc a) ↔ _) ∧ (r.foldl step_dedup (step_dedup acc a)).length ≤ _ ∧ ((r.foldl step_dedup (step_dedup acc a)).length = _ ↔ _)
    refine ⟨fun z => ?_, ?_, ?_⟩
    · rw [h1, step_mem, List.mem_cons, or_assoc]
    · rw [List.length_cons]
      split at hl <;> omega
    · rw [List.length_cons, List.nodup_cons]
      by_cases ha : a ∈ acc
      · rw [if_pos ha] at hl
        refine ⟨fun e => by omega, fun q => absurd ha (q.2 a List.mem_cons_self)⟩
      · rw [if_neg ha] at hl
        rw [show acc.length + (r.length + 1) = (step_dedup acc a).length + r.length by omega, h3]
        refine ⟨fun ⟨n1, n2⟩ => ⟨⟨fun q => n2 a q ((step_mem _ _ _).mpr (.inr rfl)), n1⟩, fun z hz => ?_⟩, fun ⟨⟨n1, n2⟩, n3⟩ => ⟨n2, fun z hz q => ?_⟩⟩
        · rcases List.mem_cons.mp hz with e | e
          · rw [e]
            exact ha
          · exact fun q => n2 z e ((step_mem _ _ _).mpr (.inl q))
        · rcases (step_mem _ _ _).mp q with q | q
          · exact n3 z (List.mem_cons_of_mem _ hz) q
          · rw [q] at hz
            exact n1 hz
theorem met_len (ns : List Int) : (met ns).length ≤ ns.length := by
  have h := (foldl_met ns []).2.1
  rw [List.length_nil, Nat.zero_add] at h
  exact h
theorem met_iff (ns : List Int) : (met ns).length = ns.length ↔ ns.Nodup := by
  have h := (foldl_met ns []).2.2
  rw [List.length_nil, Nat.zero_add] at h
  exact h.trans ⟨And.left, fun q => ⟨q, fun _ _ z => nomatch z⟩⟩
theorem firstMet_met (ns : List Int) : firstMet (fun i => ns.getD i 0) ns.length = met ns := by
  unfold firstMet met
  congr 1
  refine List.ext_getElem (by simp) fun i h1 h2 => ?_
  simp
  simp at h1
  rw [List.getElem?_eq_getElem h1]
  rfl
/-- len(set(xs)), any whole numbers -/
def tLenSetX (K : PySem.W.Frag) (ta : TE) : TE := fun σ H Q => ta σ H fun x H1 => ∃ (l : Addr) (ns : List Int), x = V.ref l ∧ SqL K H1 l (ns.map V.int) ∧ ns.length < 64 ∧ Q (.int ((met ns).length : Nat)) H1
theorem pe_lenSetX {X : Cx} {a : Expr} {ta : TE} {p p2 q pos : Pos} (hg : Gl X "len") (hm : X.mg "len" = none) (hg2 : Gl X "set") (hm2 : X.mg "set" = none) (ha : PE X a ta) (hc : X.calm = true := by rfl)
    (na : starEach [a] X.env = (false, eval a X.env) :: starEach [] X.env := by rfl) : PE X (.Call (.Name "len" p) [.Call (.Name "set" p2) [a] [] q] [] pos) (tLenSetX X.K ta) := by
  refine ⟨fun pins s σ H Q I h => ?_⟩
  refine Call_ (ld_blt I hg hm boot_len ?_)
  refine PyProof.Rows.callWith_builtin1 (PyProof.Rows.args_cons ?_ rfl) rfl rfl
  refine Call_ (ld_blt I hg2 hm2 boot_set ?_)
  refine PyProof.Rows.callWith_type1 (PyProof.Rows.args_cons (thn (ha.run pins s σ H _ I h) fun v s1 ⟨x, H1, I1, r1, q1⟩ => PyProof.Rows.args_nil ?_) na) na rfl
  obtain ⟨l, ns, rfl, hq, hl, q1⟩ := q1
  cases r1
  obtain ⟨its, r, pl, hz⟩ := I1.list hq
  have hlen : its.toArray.size = ns.length := by rw [List.size_toArray, ← r.length, List.length_map]
  refine call_set_list (I1.ok.hd hc) pl.isList (by simpa using RZ.intsAre_vals r) (by rw [hlen]; unfold scanBound; omega) fun h' tk hS hk => ?_
  refine PyProof.Rows.args_nil ?_
  rw [hlen, firstMet_met] at hS
  obtain ⟨o, es, ep, t, ho, hex, hd, _, _, _, hf, hn⟩ := hS
  have I2 : Inv X pins σ H1 { s1 with heap := h', toks := tk } := I1.kept fun b o e => hk b o (Heap.lt_size e) e
  have hml := met_len ns
  exact call_len_set ho hex hd hf (by rw [hn] <;> omega) ⟨.int ((met ns).length : Nat), H1, I2.tok _, ⟨_, by rw [hn]⟩, q1⟩
end RP
namespace RP
open PySem PySem.Spec PyProof.Rows L2 Evl
/-! ### lists by a map of their places -/
def vf (n : Nat) (f : Nat → V) : List V := (List.range n).map f
abbrev vl (n : Nat) (f : Nat → Int) : List V := vf n fun i => V.int (f i)
abbrev vr (n : Nat) (a : Nat → Addr) : List V := vf n fun i => V.ref (a i)
abbrev vn (n : Nat) (f : Nat → Nat) : List V := vf n fun i => V.int ((f i : Nat) : Int)
def il (n : Nat) (f : Nat → Int) : List Int := (List.range n).map f
theorem vl_il (n : Nat) (f : Nat → Int) : vl n f = (il n f).map V.int := by
  show (List.range n).map _ = ((List.range n).map f).map V.int
  rw [List.map_map]
  rfl
theorem il_len (n : Nat) (f : Nat → Int) : (il n f).length = n := by
  unfold il
  rw [List.length_map, List.length_range]
theorem il_succ (n : Nat) (f : Nat → Int) : il (n + 1) f = il n f ++ [f n] := by
  unfold il
  rw [List.range_succ, List.map_append]
  rfl
theorem il_sum : ∀ (n : Nat) (f : Nat → Int), (il n f).sum = sumN n f
  | 0, _ => rfl
  | n + 1, f => by
    rw [il_succ, List.sum_append, il_sum n f]
    show sumN n f + (f n + 0) = sumN n f + f n
    rw [Int.add_zero]
theorem il_mem {n : Nat} {f : Nat → Int} {z : Int} : z ∈ il n f ↔ ∃ i, i < n ∧ f i = z := by
  unfold il
  rw [List.mem_map]
  exact ⟨fun ⟨i, a, b⟩ => ⟨i, List.mem_range.mp a, b⟩, fun ⟨i, a, b⟩ => ⟨i, List.mem_range.mpr a, b⟩⟩
theorem il_get {n : Nat} {f : Nat → Int} {i : Nat} (h : i < n) : (il n f)[i]? = some (f i) := by
  unfold il
  rw [List.getElem?_map, List.getElem?_range h]
  rfl
theorem il_of (ns : List Int) : il ns.length (fun i => ns.getD i 0) = ns := by
  refine List.ext_getElem? fun i => ?_
  by_cases h : i < ns.length
  · rw [il_get h, List.getElem?_eq_getElem h]
    simp [h]
  · rw [List.getElem?_eq_none (by rw [il_len]; omega), List.getElem?_eq_none (by omega)]
theorem il_congr {n : Nat} {f g : Nat → Int} (h : ∀ i, i < n → f i = g i) : il n f = il n g := List.map_congr_left fun i hi => h i (List.mem_range.mp hi)
theorem il_inj {n : Nat} {f g : Nat → Int} (h : il n f = il n g) : ∀ i, i < n → f i = g i := fun i hi => by
  have e := congrArg (fun l => l[i]?) h
  have e : (il n f)[i]? = (il n g)[i]? := e
  rw [il_get hi, il_get hi] at e
  exact Option.some.inj e
theorem vf_len (n : Nat) (f : Nat → V) : (vf n f).length = n := by
  unfold vf
  rw [List.length_map, List.length_range]
theorem vf_get {n : Nat} {f : Nat → V} {i : Nat} (h : i < n) : (vf n f)[i]? = some (f i) := by
  unfold vf
  rw [List.getElem?_map, List.getElem?_range h]
  rfl
theorem vf_at {n : Nat} {f : Nat → V} {i : Nat} {x : V} (h : (vf n f)[i]? = some x) : i < n ∧ x = f i := by
  have hi : i < n := by
    have := (List.getElem?_eq_some_iff.mp h).1
    rw [vf_len] at this
    exact this
  rw [vf_get hi] at h
  exact ⟨hi, (Option.some.inj h).symm⟩
theorem vf_succ (n : Nat) (f : Nat → V) : vf (n + 1) f = vf n f ++ [f n] := by
  unfold vf
  rw [List.range_succ, List.map_append]
  rfl
theorem vl_succ (n : Nat) (f : Nat → Int) : vl (n + 1) f = vl n f ++ [.int (f n)] := vf_succ _ _
theorem vn_succ (n : Nat) (f : Nat → Nat) : vn (n + 1) f = vn n f ++ [.int ((f n : Nat) : Int)] := vf_succ _ _
theorem vr_succ (n : Nat) (f : Nat → Addr) : vr (n + 1) f = vr n f ++ [.ref (f n)] := vf_succ _ _
theorem vf_congr {n : Nat} {f g : Nat → V} (h : ∀ i, i < n → f i = g i) : vf n f = vf n g := List.map_congr_left fun i hi => h i (List.mem_range.mp hi)
theorem vf_of {n : Nat} {xs : List V} {f : Nat → V} (h : xs.length = n) (hf : ∀ i x, xs[i]? = some x → x = f i) : xs = vf n f := by
  refine List.ext_getElem? fun i => ?_
  by_cases hi : i < n
  · rw [vf_get hi, List.getElem?_eq_getElem (by omega)]
    rw [← hf i _ (List.getElem?_eq_getElem (by omega))]
  · rw [List.getElem?_eq_none (by omega), List.getElem?_eq_none (by rw [vf_len]; omega)]
theorem vf_set {n : Nat} {f : Nat → V} {j : Nat} {v : V} : (vf n f).set j v = vf n (fset f j v) := by
  refine List.ext_getElem? fun i => ?_
  by_cases hi : i < n
  · rw [vf_get hi]
    by_cases e : i = j
    · subst e
      rw [List.getElem?_set_self (by rw [vf_len]; exact hi), fset_same]
    · rw [List.getElem?_set_ne (Ne.symm e), vf_get hi, fset_ne _ _ e]
  · rw [List.getElem?_eq_none (by rw [List.length_set, vf_len]; omega), List.getElem?_eq_none (by rw [vf_len]; omega)]
theorem vl_set {n : Nat} {f : Nat → Int} {j : Nat} {z : Int} : (vl n f).set j (.int z) = vl n (fset f j z) := by
  rw [vf_set]
  refine vf_congr fun i _ => ?_
  by_cases e : i = j
  · subst e
    rw [fset_same, fset_same]
  · rw [fset_ne _ _ e, fset_ne _ _ e]
theorem vn_set {n : Nat} {f : Nat → Nat} {j : Nat} {z : Nat} : (vn n f).set j (.int ((z : Nat) : Int)) = vn n (fset f j z) := by
  rw [vf_set]
  refine vf_congr fun i _ => ?_
  by_cases e : i = j
  · subst e
    rw [fset_same, fset_same]
  · rw [fset_ne _ _ e, fset_ne _ _ e]
theorem vr_set {n : Nat} {f : Nat → Addr} {j : Nat} {z : Addr} : (vr n f).set j (.ref z) = vr n (fset f j z) := by
  rw [vf_set]
  refine vf_congr fun i _ => ?_
  by_cases e : i = j
  · subst e
    rw [fset_same, fset_same]
  · rw [fset_ne _ _ e, fset_ne _ _ e]
theorem vf_rep (n : Nat) (v : V) : (List.replicate n [v]).flatten = vf n fun _ => v := by
  induction n with
  | zero => rfl
  | succ n ih =>
    rw [List.replicate_succ', List.flatten_append, ih, vf_succ]
    rfl
theorem vl_inj {n : Nat} {f g : Nat → Int} (h : vl n f = vl n g) : ∀ i, i < n → f i = g i := fun i hi => by
  have e := congrArg (fun l => l[i]?) h
  have e : (vl n f)[i]? = (vl n g)[i]? := e
  rw [vf_get hi, vf_get hi] at e
  exact V.int.inj (Option.some.inj e)
theorem at_vf {n : Nat} {f : Nat → V} {i : Nat} (h : i < n) : atI (vf n f) (i : Int) = some (f i) := atI_nat (vf_get h)
theorem at_vl {n : Nat} {f : Nat → Int} {i : Nat} (h : i < n) : atI (vl n f) (i : Int) = some (.int (f i)) := atI_nat (vf_get h)
theorem at_vn {n : Nat} {f : Nat → Nat} {i : Nat} (h : i < n) : atI (vn n f) (i : Int) = some (.int ((f i : Nat) : Int)) := atI_nat (vf_get h)
theorem at_vr {n : Nat} {a : Nat → Addr} {i : Nat} (h : i < n) : atI (vr n a) (i : Int) = some (.ref (a i)) := atI_nat (vf_get h)
/-- the last one -/
theorem at_last {n : Nat} {f : Nat → V} (h : 0 < n) : atI (vf n f) (-1) = some (f (n - 1)) := by
  obtain ⟨m, rfl⟩ : ∃ m, n = m + 1 := ⟨n - 1, by omega⟩
  rw [vf_succ]
  exact atI_last _ _
theorem ints_vl (ns : List Int) : ns.map V.int = vl ns.length (fun i => ns.getD i 0) := by
  rw [vl_il, il_of]
theorem vf_sz {n : Nat} {f : Nat → V} (h : n ≤ 100000) : (vf n f).length ≤ sizeLine := by
  rw [vf_len]
  exact sz_of h
theorem vf_szl {n : Nat} {f : Nat → V} (h : n < 100000) : (vf n f).length < sizeLine := by
  rw [vf_len]
  exact sz_lt h
/-! ### what stays when more is known -/
section
variable {K : PySem.W.Frag} {H H' : Hp}
theorem Ex.same (e : Ex H H') : Same H H' := e
theorem tyx_mono (e : Ex H H') {x : V} {t : Value} (h : TyX K H x t) : TyX K H' x t := by
  cases h with
  | base b =>
    cases b with
    | non => exact .base .non
    | bl y => exact .base (.bl y)
    | int i => exact .base (.int i)
    | str y => exact .base (.str y)
    | flt y => exact .base (.flt y)
    | lst q => exact .base (.lst (e _ _ q))
    | frz q => exact .base (.frz (e _ _ q))
    | tup q => exact .base (.tup (e _ _ q))
    | dK q => exact .base (.dK (e _ _ q))
    | dT q => exact .base (.dT (e _ _ q))
    | ins q cl ha hn htk hm => exact .base (.ins (e _ _ q) cl ha hn htk hm)
  | byt b => exact .byt b
  | set q => exact .set (e _ _ q)
  | kList a b => exact .kList a b
  | kTuple a b => exact .kTuple a b
  | kDict a b => exact .kDict a b
  | fTuple q => exact .fTuple (e _ _ q)
  | fDict q => exact .fDict (e _ _ q)
theorem tyx_list {a : Addr} {xs : List V} (h : SqL K H a xs) : TyX K H (.ref a) (.type "list") := by
  rcases h with (h | ⟨o, h⟩) | ⟨o, its, n, h1, h2, _⟩
  · exact .base (.lst h)
  · exact .base (.frz h)
  · exact .kList h1 h2
theorem tyx_tup {a : Addr} {xs : List V} (h : SqT K H a xs) : TyX K H (.ref a) (.type "tuple") := by
  rcases h with (h | ⟨o, h⟩) | ⟨o, its, n, h1, h2, _⟩
  · exact .base (.tup h)
  · exact .fTuple h
  · exact .kTuple h1 h2
mutual
theorem dp_mono (e : Ex H H') : ∀ {v : V} {d : PyData}, Dp K H v d → Dp K H' v d
  | _, _, .non => .non
  | _, _, .bl b => .bl b
  | _, _, .int i => .int i
  | _, _, .str x => .str x
  | _, _, .lst h r => .lst (ex_l e h) (dpa_mono e r)
  | _, _, .tup h r => .tup (ex_t e h) (dpa_mono e r)
theorem dpa_mono (e : Ex H H') : ∀ {vs : List V} {ds : List PyData}, DpAll K H vs ds → DpAll K H' vs ds
  | _, _, .nil => .nil
  | _, _, .cons h r => .cons (dp_mono e h) (dpa_mono e r)
end
/-- a list of whole numbers, of rows, as data -/
def dI (ns : List Int) : PyData := .list (ns.map .int)
theorem dpa_ints : ∀ ns : List Int, DpAll K H (ns.map V.int) (ns.map .int)
  | [] => .nil
  | n :: r => .cons (.int n) (dpa_ints r)
theorem dp_ints {a : Addr} {n : Nat} {f : Nat → Int} (h : SqL K H a (vl n f)) : Dp K H (.ref a) (dI (il n f)) := by
  rw [vl_il] at h
  exact .lst h (dpa_ints _)
theorem dpa_vf {n : Nat} {f : Nat → V} {d : Nat → PyData} (h : ∀ i, i < n → Dp K H (f i) (d i)) : DpAll K H (vf n f) ((List.range n).map d) := by
  unfold vf
  have : ∀ l : List Nat, (∀ i, i ∈ l → Dp K H (f i) (d i)) → DpAll K H (l.map f) (l.map d) := fun l => by
    induction l with
    | nil => exact fun _ => .nil
    | cons i r ih => exact fun hh => .cons (hh i List.mem_cons_self) (ih fun j hj => hh j (List.mem_cons_of_mem _ hj))
  exact this _ fun i hi => h i (List.mem_range.mp hi)
theorem eqv_all : ∀ {xs ys : List PyData}, PyData.eqvAll xs ys = true ↔ xs.length = ys.length ∧ ∀ (i : Nat) (x y : PyData), xs[i]? = some x → ys[i]? = some y → PyData.eqv x y = true
  | [], [] => by simp [PyData.eqvAll]
  | [], y :: ys => by simp [PyData.eqvAll]
  | x :: xs, [] => by simp [PyData.eqvAll]
  | x :: xs, y :: ys => by
    have ih := eqv_all (xs := xs) (ys := ys)
    show (PyData.eqv x y && PyData.eqvAll xs ys) = true ↔ _
    rw [Bool.and_eq_true, ih]
    constructor
    · rintro ⟨h1, h2, h3⟩
      refine ⟨by rw [List.length_cons, List.length_cons, h2], fun i a b ha hb => ?_⟩
      cases i with
      | zero =>
        cases ha
        cases hb
        exact h1
      | succ i => exact h3 i a b ha hb
    · rintro ⟨h2, h3⟩
      exact ⟨h3 0 x y rfl rfl, by simpa using h2, fun i a b ha hb => h3 (i + 1) a b ha hb⟩
theorem eqv_ints (xs ys : List Int) : PyData.eqv (dI xs) (dI ys) = decide (xs = ys) := by
  show PyData.eqvAll _ _ = _
  rw [Bool.eq_iff_iff, eqv_all, decide_eq_true_iff]
  rw [List.length_map, List.length_map]
  constructor
  · rintro ⟨h1, h2⟩
    refine List.ext_getElem? fun i => ?_
    by_cases hi : i < xs.length
    · have e1 := List.getElem?_eq_getElem hi
      have e2 := List.getElem?_eq_getElem (show i < ys.length by omega)
      have := h2 i (.int xs[i]) (.int ys[i]) (by rw [List.getElem?_map, e1]; rfl) (by rw [List.getElem?_map, e2]; rfl)
      have : (xs[i] == ys[i]) = true := this
      rw [e1, e2, beq_iff_eq.mp this]
    · rw [List.getElem?_eq_none (by omega), List.getElem?_eq_none (by omega)]
  · rintro rfl
    refine ⟨rfl, fun i x y hx hy => ?_⟩
    rw [hx] at hy
    cases hy
    rw [List.getElem?_map] at hx
    cases e : xs[i]? with
    | none =>
      rw [e] at hx
      cases hx
    | some z =>
      rw [e] at hx
      cases hx
      exact beq_self_eq_true z
theorem canLayAll_of : ∀ {ds : List PyData}, (∀ d, d ∈ ds → d.canLay0 = true) → PyData.canLayAll0 ds = true
  | [], _ => rfl
  | d :: r, h => by
    show (d.canLay0 && PyData.canLayAll0 r) = true
    rw [h d List.mem_cons_self, canLayAll_of fun e he => h e (List.mem_cons_of_mem _ he)]
    rfl
theorem depthAll_of {k : Nat} : ∀ {ds : List PyData}, (∀ d, d ∈ ds → d.depth ≤ k) → PyData.depthAll ds ≤ k
  | [], _ => Nat.zero_le _
  | d :: r, h => by
    show max d.depth (PyData.depthAll r) ≤ k
    exact Nat.max_le.mpr ⟨h d List.mem_cons_self, depthAll_of fun e he => h e (List.mem_cons_of_mem _ he)⟩
/-- data that may be laid, no deeper than k -/
def Flat (k : Nat) (d : PyData) : Prop := d.canLay0 = true ∧ d.depth ≤ k
theorem flat_shaped {k : Nat} {d : PyData} (h : Flat k d) (hk : k ≤ 64) : SeqAt.shaped d = true := by
  unfold SeqAt.shaped
  rw [h.1, decide_eq_true (Nat.le_trans h.2 hk)]
  rfl
theorem flat_int (z : Int) : Flat 0 (.int z) := ⟨rfl, Nat.le_refl _⟩
theorem flat_list {k : Nat} {ds : List PyData} (h : ∀ d, d ∈ ds → Flat k d) : Flat (k + 1) (.list ds) := ⟨canLayAll_of fun d hd => (h d hd).1, Nat.succ_le_succ (depthAll_of fun d hd => (h d hd).2)⟩
theorem flat_tup {k : Nat} {ds : List PyData} (h : ∀ d, d ∈ ds → Flat k d) : Flat (k + 1) (.tuple ds) := ⟨canLayAll_of fun d hd => (h d hd).1, Nat.succ_le_succ (depthAll_of fun d hd => (h d hd).2)⟩
theorem flat_dI (xs : List Int) : Flat 1 (dI xs) := flat_list fun d hd => by
  obtain ⟨z, _, rfl⟩ := List.mem_map.mp hd
  exact flat_int z
theorem dI_shaped (xs : List Int) : SeqAt.shaped (dI xs) = true := flat_shaped (flat_dI xs) (by decide)
/-- rows -/
def dM (n : Nat) (M : Nat → Nat → Int) : PyData := .list ((List.range n).map fun i => dI (il n (M i)))
theorem flat_dM (n : Nat) (M : Nat → Nat → Int) : Flat 2 (dM n M) := flat_list fun d hd => by
  obtain ⟨i, _, rfl⟩ := List.mem_map.mp hd
  exact flat_dI _
end
/-! ### a table: rows, each a list -/
/-- at t a list of the rows at a 0, a 1, .. -/
structure Tab (K : PySem.W.Frag) (H : Hp) (t : Addr) (n : Nat) (a : Nat → Addr) (M : Nat → Nat → Int) : Prop where
  rows : SqL K H t (vr n a)
  row : ∀ i, i < n → SqL K H (a i) (vl n (M i))
section
variable {K : PySem.W.Frag} {H H' : Hp} {t : Addr} {n : Nat} {a : Nat → Addr} {M : Nat → Nat → Int}
theorem Tab.mono (e : Ex H H') (h : Tab K H t n a M) : Tab K H' t n a M := ⟨ex_l e h.rows, fun i hi => ex_l e (h.row i hi)⟩
theorem Tab.dp (h : Tab K H t n a M) : Dp K H (.ref t) (dM n M) := .lst h.rows (dpa_vf fun i hi => dp_ints (h.row i hi))
theorem eqv_dM {M' : Nat → Nat → Int} (h : ∀ i j, i < n → j < n → M i j = M' i j) : PyData.eqv (dM n M) (dM n M') = true := by
  have e : dM n M = dM n M' := by
    unfold dM
    congr 1
    refine List.map_congr_left fun i hi => ?_
    rw [il_congr fun j hj => h i j (List.mem_range.mp hi) hj]
  rw [e]
  exact PySem.SeqAt.eqv_refl _ (flat_dM n M').1
end
end RP
namespace RP
open PySem PySem.Spec PyProof.Rows L2 Evl
/-! ### what a reading evaluates to, further -/
section
variable {K : PySem.W.Frag} {σ : L2.St} {H H' : Hp} {ta tb tc te tx : TE} {t u : TT} {x y z v : V} {r : R2}
theorem mulok_l {i j : Int} (h : -(2 ^ 63) ≤ i ∧ i ≤ 2 ^ 63) : IntMulOk i j := .of_left (intBits_le_64 (by omega) (by omega))
theorem mulok_n {n : Nat} {j : Int} (h : n ≤ 1000) : IntMulOk (n : Int) j := mulok_l (by omega)
theorem ev_add {i j : Int} (ha : Ev ta σ H (.int i)) (hb : Ev tb σ H (.int j)) : Ev (tOp (rI0 fun i j => .int (i + j)) ta tb) σ H (.int (i + j)) := ev_op ha hb rv_I0
theorem ev_sub {i j : Int} (ha : Ev ta σ H (.int i)) (hb : Ev tb σ H (.int j)) : Ev (tOp (rI0 fun i j => .int (i - j)) ta tb) σ H (.int (i - j)) := ev_op ha hb rv_I0
theorem ev_mul {i j : Int} (ha : Ev ta σ H (.int i)) (hb : Ev tb σ H (.int j)) (h : IntMulOk i j) : Ev (tOp (rI (fun i j => IntMulOk i j) fun i j => .int (i * j)) ta tb) σ H (.int (i * j)) := ev_op ha hb (rv_I h)
theorem ev_mod {i j : Int} (ha : Ev ta σ H (.int i)) (hb : Ev tb σ H (.int j)) (h : 0 < j) : Ev (tOp (rI (fun _ j => 0 < j) fun i j => .int (i % j)) ta tb) σ H (.int (i % j)) := ev_op ha hb (rv_I h)
theorem ev_fdiv {i j : Int} (ha : Ev ta σ H (.int i)) (hb : Ev tb σ H (.int j)) (h : 0 < j) (h2 : j < 2 ^ 63) : Ev (tOp (rI CDivW fun i j => .int (i / j)) ta tb) σ H (.int (i / j)) :=
  ev_op ha hb (rv_I (wide_div (b := 63) h (by omega) (by decide) (by decide)))
theorem ev_neg {i : Int} (ha : Ev ta σ H (.int i)) : Ev (tUn (rU fun i => .int (-i)) ta) σ H (.int (-i)) := ev_un ha ru_neg
theorem ev_lt {i j : Int} (ha : Ev ta σ H (.int i)) (hb : Ev tb σ H (.int j)) : Ev (tOp (rI0 fun i j => .bl (decide (i < j))) ta tb) σ H (.bl (decide (i < j))) := ev_op ha hb rv_I0
theorem ev_le {i j : Int} (ha : Ev ta σ H (.int i)) (hb : Ev tb σ H (.int j)) : Ev (tOp (rI0 fun i j => .bl (decide (i ≤ j))) ta tb) σ H (.bl (decide (i ≤ j))) := ev_op ha hb rv_I0
theorem ev_gt {i j : Int} (ha : Ev ta σ H (.int i)) (hb : Ev tb σ H (.int j)) : Ev (tOp (rI0 fun i j => .bl (decide (j < i))) ta tb) σ H (.bl (decide (j < i))) := ev_op ha hb rv_I0
theorem ev_ge {i j : Int} (ha : Ev ta σ H (.int i)) (hb : Ev tb σ H (.int j)) : Ev (tOp (rI0 fun i j => .bl (decide (j ≤ i))) ta tb) σ H (.bl (decide (j ≤ i))) := ev_op ha hb rv_I0
theorem dec_int {i j : Int} : decide (V.int i = V.int j) = decide (i = j) := by
  rw [decide_eq_decide]
  exact ⟨fun e => V.int.inj e, fun e => by rw [e]⟩
theorem ev_eqI {i j : Int} (ha : Ev ta σ H (.int i)) (hb : Ev tb σ H (.int j)) : Ev (tOp rEq ta tb) σ H (.bl (decide (i = j))) := ev_is (ev_op ha hb (rv_eq rfl)) (by rw [dec_int])
theorem ev_neI {i j : Int} (ha : Ev ta σ H (.int i)) (hb : Ev tb σ H (.int j)) : Ev (tOp rNe ta tb) σ H (.bl (!decide (i = j))) := ev_is (ev_op ha hb (rv_ne rfl)) (by rw [dec_int])
theorem dec_bl {i j : Bool} : decide (V.bl i = V.bl j) = (i == j) := by
  cases i <;> cases j <;> rfl
theorem ev_eqB {i j : Bool} (ha : Ev ta σ H (.bl i)) (hb : Ev tb σ H (.bl j)) : Ev (tOp rEq ta tb) σ H (.bl (i == j)) := ev_is (ev_op ha hb (rv_eq rfl)) (by rw [dec_bl])
theorem ev_neB {i j : Bool} (ha : Ev ta σ H (.bl i)) (hb : Ev tb σ H (.bl j)) : Ev (tOp rNe ta tb) σ H (.bl (!(i == j))) := ev_is (ev_op ha hb (rv_ne rfl)) (by rw [dec_bl])
/-- is None -/
theorem ev_isN (ha : Ev ta σ H x) : Ev (tOp (fun x y H Q => y = .non ∧ Q (.bl (decide (x = .non))) H) ta (tC .non)) σ H (.bl (decide (x = .non))) := ev_op ha ev_c (rv_val fun _ _ _ q => ⟨rfl, q⟩)
theorem ev_notN (ha : Ev ta σ H x) : Ev (tOp (fun x y H Q => y = .non ∧ Q (.bl (!decide (x = .non))) H) ta (tC .non)) σ H (.bl (!decide (x = .non))) := ev_op ha ev_c (rv_val fun _ _ _ q => ⟨rfl, q⟩)
theorem ev_isB {i j : Bool} (ha : Ev ta σ H (.bl i)) (hb : Ev tb σ H (.bl j)) : Ev (tOp rIsB ta tb) σ H (.bl (decide (i = j))) := ev_op ha hb (rv_val fun _ _ _ q => ⟨i, j, rfl, rfl, q⟩)
theorem ev_notB {i j : Bool} (ha : Ev ta σ H (.bl i)) (hb : Ev tb σ H (.bl j)) : Ev (tOp rNotB ta tb) σ H (.bl (!decide (i = j))) := ev_op ha hb (rv_val fun _ _ _ q => ⟨i, j, rfl, rfl, q⟩)
/-- one item of a list -/
theorem ev_ix {p : Addr} {xs : List V} {i : Int} (ha : Ev ta σ H (.ref p)) (hb : Ev tb σ H (.int i)) (h : SqL K H p xs) (hi : atI xs i = some v) : Ev (tOp (rIxL K) ta tb) σ H v := ev_op ha hb (rv_ixL h hi)
theorem ev_ixl {p : Addr} {n : Nat} {f : Nat → Int} {i : Nat} (ha : Ev ta σ H (.ref p)) (hb : Ev tb σ H (.int (i : Int))) (h : SqL K H p (vl n f)) (hi : i < n) : Ev (tOp (rIxL K) ta tb) σ H (.int (f i)) := ev_ix ha hb h (at_vl hi)
theorem ev_ixn {p : Addr} {n : Nat} {f : Nat → Nat} {i : Nat} (ha : Ev ta σ H (.ref p)) (hb : Ev tb σ H (.int (i : Int))) (h : SqL K H p (vn n f)) (hi : i < n) : Ev (tOp (rIxL K) ta tb) σ H (.int ((f i : Nat) : Int)) := ev_ix ha hb h (at_vn hi)
theorem ev_ixr {p : Addr} {n : Nat} {f : Nat → Addr} {i : Nat} (ha : Ev ta σ H (.ref p)) (hb : Ev tb σ H (.int (i : Int))) (h : SqL K H p (vr n f)) (hi : i < n) : Ev (tOp (rIxL K) ta tb) σ H (.ref (f i)) := ev_ix ha hb h (at_vr hi)
theorem ev_ixf {p : Addr} {n : Nat} {f : Nat → V} {i : Nat} (ha : Ev ta σ H (.ref p)) (hb : Ev tb σ H (.int (i : Int))) (h : SqL K H p (vf n f)) (hi : i < n) : Ev (tOp (rIxL K) ta tb) σ H (f i) := ev_ix ha hb h (at_vf hi)
/-- table[i][j] -/
theorem ev_tab {p : Addr} {n : Nat} {a : Nat → Addr} {M : Nat → Nat → Int} {i j : Nat} (T : Tab K H p n a M) (ha : Ev ta σ H (.ref p)) (hb : Ev tb σ H (.int (i : Int))) (hc : Ev tc σ H (.int (j : Int))) (hi : i < n) (hj : j < n) :
    Ev (tOp (rIxL K) (tOp (rIxL K) ta tb) tc) σ H (.int (M i j)) := ev_ixl (ev_ixr ha hb T.rows hi) hc (T.row i hi) hj
/-- len -/
theorem ev_lens {p : Addr} {xs : List V} (ha : Ev ta σ H (.ref p)) (h : SqL K H p xs) : Ev (tCB (rLenS K) (tCons ta tNil)) σ H (.int (xs.length : Int)) := ev_len ha h
theorem ev_lent {p : Addr} {xs : List V} (ha : Ev ta σ H (.ref p)) (h : SqT K H p xs) : Ev (tCB (rLenS K) (tCons ta tNil)) σ H (.int (xs.length : Int)) := fun H1 e Q q =>
  ha H1 e _ fun H2 e2 => ⟨p, xs, rfl, Or.inr (ex_t (e.trans e2) h), q H2 e2⟩
theorem ev_lenf {p : Addr} {n : Nat} {f : Nat → V} (ha : Ev ta σ H (.ref p)) (h : SqL K H p (vf n f)) : Ev (tCB (rLenS K) (tCons ta tNil)) σ H (.int (n : Int)) :=
  ev_is (ev_lens ha h) (by rw [vf_len])
/-- sum, max, min of a list -/
theorem ev_sum {p : Addr} {n : Nat} {f : Nat → Int} (ha : Ev ta σ H (.ref p)) (h : SqL K H p (vl n f)) : Ev (tCB (rSum K) (tCons ta tNil)) σ H (.int (sumN n f)) := fun H1 e Q q =>
  ha H1 e _ fun H2 e2 => ⟨p, il n f, rfl, by rw [← vl_il]; exact ex_l (e.trans e2) h, by rw [il_sum]; exact q H2 e2⟩
theorem ev_sumL {n : Nat} {f : Nat → Int} (ha : EvL ta σ H (vl n f)) : Ev (tCB (rSum K) (tCons ta tNil)) σ H (.int (sumN n f)) := fun H1 e Q q =>
  ha H1 e _ fun p H2 _ e2 h => ⟨p, il n f, rfl, by rw [← vl_il]; exact sq_of h, by rw [il_sum]; exact q H2 e2⟩
theorem ev_sumI {p : Addr} {ns : List Int} (ha : Ev ta σ H (.ref p)) (h : SqL K H p (ns.map V.int)) : Ev (tCB (rSum K) (tCons ta tNil)) σ H (.int ns.sum) := fun H1 e Q q =>
  ha H1 e _ fun H2 e2 => ⟨p, ns, rfl, ex_l (e.trans e2) h, q H2 e2⟩
/-- the greatest, the least: any number that is one of them and none is beyond -/
theorem ev_max {p : Addr} {n : Nat} {f : Nat → Int} {m : Int} (ha : Ev ta σ H (.ref p)) (h : SqL K H p (vl n f)) (hm : ∃ i, i < n ∧ f i = m) (hl : ∀ i, i < n → f i ≤ m) : Ev (tCB (rMax K) (tCons ta tNil)) σ H (.int m) := fun H1 e Q q =>
  ha H1 e _ fun H2 e2 => ⟨p, il n f, rfl, by rw [← vl_il]; exact ex_l (e.trans e2) h, by rw [il_len]; obtain ⟨i, hi, _⟩ := hm; omega, fun m' h1 h2 => by
    obtain ⟨i, hi, ei⟩ := hm
    obtain ⟨k, hk, ek⟩ := il_mem.mp h1
    have a := h2 m (il_mem.mpr ⟨i, hi, ei⟩)
    have b := hl k hk
    have e3 : m' = m := by omega
    rw [e3]
    exact q H2 e2⟩
theorem ev_minL {n : Nat} {f : Nat → Int} {m : Int} (ha : EvL ta σ H (vl n f)) (hm : ∃ i, i < n ∧ f i = m) (hl : ∀ i, i < n → m ≤ f i) : Ev (tCB (rMin K) (tCons ta tNil)) σ H (.int m) := fun H1 e Q q =>
  ha H1 e _ fun p H2 _ e2 h => ⟨p, il n f, rfl, by rw [← vl_il]; exact sq_of h, by rw [il_len]; obtain ⟨i, hi, _⟩ := hm; omega, fun m' h1 h2 => by
    obtain ⟨i, hi, ei⟩ := hm
    obtain ⟨k, hk, ek⟩ := il_mem.mp h1
    have a := h2 m (il_mem.mpr ⟨i, hi, ei⟩)
    have b := hl k hk
    have e3 : m' = m := by omega
    rw [e3]
    exact q H2 e2⟩
theorem ev_min {p : Addr} {n : Nat} {f : Nat → Int} {m : Int} (ha : Ev ta σ H (.ref p)) (h : SqL K H p (vl n f)) (hm : ∃ i, i < n ∧ f i = m) (hl : ∀ i, i < n → m ≤ f i) : Ev (tCB (rMin K) (tCons ta tNil)) σ H (.int m) := fun H1 e Q q =>
  ha H1 e _ fun H2 e2 => ⟨p, il n f, rfl, by rw [← vl_il]; exact ex_l (e.trans e2) h, by rw [il_len]; obtain ⟨i, hi, _⟩ := hm; omega, fun m' h1 h2 => by
    obtain ⟨i, hi, ei⟩ := hm
    obtain ⟨k, hk, ek⟩ := il_mem.mp h1
    have a := h2 m (il_mem.mpr ⟨i, hi, ei⟩)
    have b := hl k hk
    have e3 : m' = m := by omega
    rw [e3]
    exact q H2 e2⟩
theorem ev_min2 {i j : Int} (ha : Ev ta σ H (.int i)) (hb : Ev tb σ H (.int j)) : Ev (tCB (fun xs H Q => ∃ i j, xs = [.int i, .int j] ∧ Q (.int (if j < i then j else i)) H) (tCons ta (tCons tb tNil))) σ H (.int (min i j)) := fun H1 e Q q =>
  ha H1 e _ fun H2 e2 => hb H2 (e.trans e2) _ fun H3 e3 => ⟨i, j, rfl, by
    have e4 : (if j < i then j else i) = min i j := by
      rw [Int.min_def]
      split <;> split <;> omega
    rw [e4]
    exact q H3 (e2.trans e3)⟩
theorem ev_abs {i : Int} (ha : Ev ta σ H (.int i)) : Ev (tCB (fun xs H Q => ∃ i, xs = [.int i] ∧ Q (.int (if i < 0 then -i else i)) H) (tCons ta tNil)) σ H (.int (if i < 0 then -i else i)) := fun H1 e Q q =>
  ha H1 e _ fun H2 e2 => ⟨i, rfl, q H2 e2⟩
/-- all, any of a new list of truths -/
theorem ev_allL {bs : List Bool} (ha : EvL ta σ H (bs.map V.bl)) : Ev (tCB (rAll K) (tCons ta tNil)) σ H (.bl (bs.all id)) := fun H1 e Q q => ha H1 e _ fun p H2 _ e2 h => ⟨p, bs, rfl, sq_of h, q H2 e2⟩
theorem ev_anyL {bs : List Bool} (ha : EvL ta σ H (bs.map V.bl)) : Ev (tCB (rAny K) (tCons ta tNil)) σ H (.bl (bs.any id)) := fun H1 e Q q => ha H1 e _ fun p H2 _ e2 h => ⟨p, bs, rfl, sq_of h, q H2 e2⟩
def bf (n : Nat) (b : Nat → Bool) : List Bool := (List.range n).map b
theorem vf_bf (n : Nat) (b : Nat → Bool) : vf n (fun i => V.bl (b i)) = (bf n b).map V.bl := by
  unfold vf bf
  rw [List.map_map]
  rfl
theorem bf_all {n : Nat} {b : Nat → Bool} : (bf n b).all id = true ↔ ∀ i, i < n → b i = true := by
  unfold bf
  rw [List.all_map, List.all_eq_true]
  exact ⟨fun h i hi => h i (List.mem_range.mpr hi), fun h i hi => h i (List.mem_range.mp hi)⟩
theorem bf_any {n : Nat} {b : Nat → Bool} : (bf n b).any id = true ↔ ∃ i, i < n ∧ b i = true := by
  unfold bf
  rw [List.any_map, List.any_eq_true]
  exact ⟨fun ⟨i, hi, h⟩ => ⟨i, List.mem_range.mp hi, h⟩, fun ⟨i, hi, h⟩ => ⟨i, List.mem_range.mpr hi, h⟩⟩
/-- isinstance(x, a built-in class) -/
theorem ev_isi {T N : String} {b : Bool} (ha : Ev ta σ H x) (ht : TyX K H x (.type T)) (hk : kitB T N = some b) : Ev (tCB (rIsi K) (tCons ta (tCons (tC (.ty N)) tNil))) σ H (.bl b) := fun H1 e Q q =>
  ha H1 e _ fun H2 e2 => ⟨x, .ty N, .type T, .type N, b, rfl, .ty N, tyx_mono (e.trans e2) ht, kit_ty hk, q H2 e2⟩
/-- isinstance(x, an own class) -/
theorem ev_isiC {tv : Value} {C : Addr} {b : Bool} (ha : Ev ta σ H x) (ht : TyX K H x tv) (hk : PySem.W.kitOne K tv (.ref C) = some b) : Ev (tCB (rIsi K) (tCons ta (tCons (tC (.ref C)) tNil))) σ H (.bl b) := fun H1 e Q q =>
  ha H1 e _ fun H2 e2 => ⟨x, .ref C, tv, .ref C, b, rfl, .own C, tyx_mono (e.trans e2) ht, hk, q H2 e2⟩
theorem ev_isiV {tv : Value} {N : String} {b : Bool} (ha : Ev ta σ H x) (ht : TyX K H x tv) (hk : PySem.W.kitOne K tv (.type N) = some b) : Ev (tCB (rIsi K) (tCons ta (tCons (tC (.ty N)) tNil))) σ H (.bl b) := fun H1 e Q q =>
  ha H1 e _ fun H2 e2 => ⟨x, .ty N, tv, .type N, b, rfl, .ty N, tyx_mono (e.trans e2) ht, hk, q H2 e2⟩
/-- o.f -/
theorem ev_fld {a C dx : Addr} {fs : List (Str × V)} {f : Str} (ha : Ev ta σ H (.ref a)) (h : H a = some (.ins C dx fs)) (c : Cls K C) (n : NoAttr K C f) (l : fs.lookup f = some v) : Ev (tFld K ta f) σ H v := fun H1 e Q q =>
  ha H1 e _ fun H2 e2 => ⟨a, C, dx, fs, v, rfl, e2 _ _ (e _ _ h), c, n, l, q H2 e2⟩
/-- a < b < c -/
theorem ev_chain {r r' : R2} {b1 b2 : Bool} (ha : Ev ta σ H x) (hb : Ev tb σ H y) (hr : RV r x y H (.bl b1)) (hc : b1 = true → Ev tc σ H z) (hr' : b1 = true → RV r' y z H (.bl b2)) : Ev (tChain r r' ta tb tc) σ H (.bl (b1 && b2)) := fun H1 e Q q =>
  ha H1 e _ fun H2 e2 => hb H2 (e.trans e2) _ fun H3 e3 => hr H3 ((e.trans e2).trans e3) _ fun H4 e4 => ⟨b1, rfl, by
    cases b1 with
    | true =>
      show tc σ H4 _
      exact hc rfl H4 (((e.trans e2).trans e3).trans e4) _ fun H5 e5 => hr' rfl H5 ((((e.trans e2).trans e3).trans e4).trans e5) Q fun H6 e6 => q H6 ((((e2.trans e3).trans e4).trans e5).trans e6)
    | false =>
      show Q (.bl false) H4
      exact q H4 ((e2.trans e3).trans e4)⟩
/-- x in xs, x not in xs: whole numbers -/
theorem inV_nat {i : Nat} {ds : List Nat} : inV (.int (i : Int)) (ds.map fun (j : Nat) => V.int (j : Int)) = decide (i ∈ ds) := by
  unfold inV
  rw [Bool.eq_iff_iff, List.any_eq_true, decide_eq_true_iff]
  constructor
  · rintro ⟨y, hy, e⟩
    obtain ⟨j, hj, rfl⟩ := List.mem_map.mp hy
    have e : decide ((j : Int) = (i : Int)) = true := by simpa [eqV] using e
    have e2 : j = i := by
      have := of_decide_eq_true e
      omega
    rw [← e2]
    exact hj
  · intro h
    exact ⟨.int (i : Int), List.mem_map.mpr ⟨i, h, rfl⟩, by simp [eqV]⟩
theorem flat_nats (ds : List Nat) : (ds.map fun (j : Nat) => V.int (j : Int)).all flatV = true := by
  rw [List.all_map, List.all_eq_true]
  exact fun _ _ => rfl
theorem ev_notIn {p : Addr} {ds : List Nat} {i : Nat} (ha : Ev ta σ H (.int (i : Int))) (hb : Ev tb σ H (.ref p)) (h : SqL K H p (ds.map fun (j : Nat) => V.int (j : Int))) : Ev (tOp (rIn K true) ta tb) σ H (.bl (!decide (i ∈ ds))) :=
  ev_is (ev_op ha hb (rv_niL h rfl (flat_nats ds))) (by rw [inV_nat])
/-- == and != of data -/
theorem ev_eqD {d1 d2 : PyData} (ha : Ev ta σ H x) (hb : Ev tb σ H y) (h1 : Dp K H x d1) (h2 : Dp K H y d2) (s1 : SeqAt.shaped d1 = true) (s2 : SeqAt.shaped d2 = true) : Ev (tOp (rEqD K) ta tb) σ H (.bl (PyData.eqv d1 d2)) :=
  ev_op ha hb (rv_val fun _ e _ q => ⟨d1, d2, dp_mono e h1, dp_mono e h2, s1, s2, q⟩)
theorem ev_neD {d1 d2 : PyData} (ha : Ev ta σ H x) (hb : Ev tb σ H y) (h1 : Dp K H x d1) (h2 : Dp K H y d2) (s1 : SeqAt.shaped d1 = true) (s2 : SeqAt.shaped d2 = true) : Ev (tOp (rNeD K) ta tb) σ H (.bl (!PyData.eqv d1 d2)) :=
  ev_op ha hb (rv_val fun _ e _ q => ⟨d1, d2, dp_mono e h1, dp_mono e h2, s1, s2, q⟩)
/-- .. of what is made on the way: both sides leave some value of that data -/
def EvD (K : PySem.W.Frag) (te : TE) (σ : L2.St) (H : Hp) (d : PyData) : Prop := ∀ H1, Ex H H1 → ∀ Q : VK, (∀ v H2, Ex H1 H2 → Dp K H2 v d → Q v H2) → te σ H1 Q
theorem Ev.d {d : PyData} (h : Ev te σ H v) (hd : Dp K H v d) : EvD K te σ H d := fun H1 e Q q => h H1 e Q fun H2 e2 => q v H2 e2 (dp_mono (e.trans e2) hd)
theorem evd_lst {ns : List Int} (h : EvL te σ H (ns.map V.int)) : EvD K te σ H (dI ns) := fun H1 e Q q => h H1 e Q fun p H2 _ e2 hp => q _ H2 e2 (.lst (sq_of hp) (dpa_ints ns))
theorem evd_vl {n : Nat} {f : Nat → Int} (h : EvL te σ H (vl n f)) : EvD K te σ H (dI (il n f)) := evd_lst (by rw [← vl_il]; exact h)
theorem evd_eq {d1 d2 : PyData} (ha : EvD K ta σ H d1) (hb : EvD K tb σ H d2) (s1 : SeqAt.shaped d1 = true) (s2 : SeqAt.shaped d2 = true) : Ev (tOp (rEqD K) ta tb) σ H (.bl (PyData.eqv d1 d2)) := fun H1 e Q q =>
  ha H1 e _ fun v H2 e2 h2 => hb H2 (e.trans e2) _ fun w H3 e3 h3 => ⟨d1, d2, dp_mono e3 h2, h3, s1, s2, q H3 (e2.trans e3)⟩
theorem evd_ne {d1 d2 : PyData} (ha : EvD K ta σ H d1) (hb : EvD K tb σ H d2) (s1 : SeqAt.shaped d1 = true) (s2 : SeqAt.shaped d2 = true) : Ev (tOp (rNeD K) ta tb) σ H (.bl (!PyData.eqv d1 d2)) := fun H1 e Q q =>
  ha H1 e _ fun v H2 e2 h2 => hb H2 (e.trans e2) _ fun w H3 e3 h3 => ⟨d1, d2, dp_mono e3 h2, h3, s1, s2, q H3 (e2.trans e3)⟩
/-- the parts of a display that is compared -/
def EvDA (K : PySem.W.Frag) (ta : TA) (σ : L2.St) (H : Hp) (ds : List PyData) : Prop := ∀ H1, Ex H H1 → ∀ Q : List V → Hp → Prop, (∀ vs H2, Ex H1 H2 → DpAll K H2 vs ds → Q vs H2) → ta σ H1 Q
theorem evda_nil : EvDA K tNil σ H [] := fun H1 _ _ q => q [] H1 (Ex.refl H1) .nil
theorem evda_cons {tr : TA} {d : PyData} {ds : List PyData} (h : EvD K te σ H d) (hr : EvDA K tr σ H ds) : EvDA K (tCons te tr) σ H (d :: ds) := fun H1 e _ q =>
  h H1 e _ fun v H2 e2 hv => hr H2 (e.trans e2) _ fun vs H3 e3 hvs => q _ H3 (e2.trans e3) (.cons (dp_mono e3 hv) hvs)
theorem dpa_len : ∀ {vs : List V} {ds : List PyData}, DpAll K H vs ds → vs.length = ds.length
  | _, _, .nil => rfl
  | _, _, .cons _ r => by rw [List.length_cons, List.length_cons, dpa_len r]
theorem evd_lstA {ta : TA} {ds : List PyData} (h : EvDA K ta σ H ds) (hl : ds.length ≤ 1000) : EvD K (tLst ta) σ H (.list ds) := fun H1 e Q q =>
  h H1 e _ fun vs H2 e2 hv => ⟨by rw [dpa_len hv]; exact sz_of (by omega), fun p hp => q _ _ (e2.trans (Ex.new hp)) (.lst (sq_of upd_same) (dpa_mono (Ex.new hp) hv))⟩
theorem evd_tupA {ta : TA} {ds : List PyData} (h : EvDA K ta σ H ds) (hl : ds.length ≤ 1000) : EvD K (tTup ta) σ H (.tuple ds) := fun H1 e Q q =>
  h H1 e _ fun vs H2 e2 hv => ⟨by rw [dpa_len hv]; exact sz_of (by omega), fun p hp => q _ _ (e2.trans (Ex.new hp)) (.tup (st_of upd_same) (dpa_mono (Ex.new hp) hv))⟩
/-- range as a list -/
theorem rgV_vl {n : Nat} : rgV 0 (n : Int) = vl n fun i => (i : Int) := by
  refine vf_of ?_ fun i x h => ?_
  · simp [rgV]
  · unfold rgV at h
    rw [List.getElem?_map] at h
    cases e : (List.range ((n : Int) - 0).toNat)[i]? with
    | none =>
      rw [e] at h
      cases h
    | some k =>
      rw [e] at h
      have hk := (List.getElem?_eq_some_iff.mp e).2
      rw [List.getElem_range] at hk
      subst hk
      cases h
      show V.int (0 + (i : Int)) = V.int (i : Int)
      rw [Int.zero_add]
theorem el_rng {n : Nat} (h : Ev ta σ H (.int (n : Int))) (hn : n ≤ 100000) : EvL (tLstRg (tRg1 ta)) σ H (vl n fun i => (i : Int)) := fun H1 e Q q => h H1 e _ fun H2 e2 => ⟨(n : Int), rfl, ⟨by unfold RgOk; omega, fun p hp => by
  rw [rgV_vl]
  exact q p _ (fresh_back e2 hp) (e2.trans (Ex.new hp)) upd_same⟩⟩
/-- [v] * n -/
theorem el_rep {n : Nat} (h : Ev te σ H v) (hn : Ev tb σ H (.int (n : Int))) (hl : n ≤ 100000) : EvL (tOp rRep (tLst (tCons te tNil)) tb) σ H (vf n fun _ => v) := fun H1 e Q q =>
  h H1 e _ fun H2 e2 => ⟨sz_of (show 1 ≤ 100000 by decide), fun p hp => hn _ ((e.trans e2).trans (Ex.new hp)) _ fun H3 e3 => ⟨p, (n : Int), [v], rfl, rfl, e3 _ _ upd_same, by omega, by omega, by
    rw [List.length_singleton, Nat.one_mul]
    exact sz_of (by omega), fun l hl => by
      rw [Int.toNat_natCast, vf_rep]
      exact q l _ (fresh_back ((e2.trans (Ex.new hp)).trans e3) hl) (((e2.trans (Ex.new hp)).trans e3).trans (Ex.new hl)) upd_same⟩⟩
/-- list(xs) -/
theorem el_copy {p : Addr} {xs : List V} (ha : Ev ta σ H (.ref p)) (h : SqL K H p xs) : EvL (tCB (rListS K) (tCons ta tNil)) σ H xs := el_list ha h
/-- sorted -/
theorem el_sort {p : Addr} {ns ms : List Int} (ha : Ev ta σ H (.ref p)) (h : SqL K H p (ns.map V.int)) (hl : ns.length < 64) (hs : ∀ ns' : List Int, ns'.Perm ns → ns'.Pairwise (· ≤ ·) → ns' = ms) : EvL (tCB (rSorted K) (tCons ta tNil)) σ H (ms.map V.int) := fun H1 e Q q =>
  ha H1 e _ fun H2 e2 => ⟨p, ns, rfl, ex_l (e.trans e2) h, hl, fun ns' l h1 h2 hl => by
    rw [hs ns' h1 h2]
    exact q l _ (fresh_back e2 hl) (e2.trans (Ex.new hl)) upd_same⟩
/-! ### comprehensions without a test -/
theorem et_yes : EvT tYes σ H true := fun H1 _ _ q => q H1 (Ex.refl H1)
theorem given_all (n : Nat) (f : Nat → V) : given n (fun _ => true) f = vf n f := by
  unfold given vf
  rw [List.filter_eq_self.mpr fun _ _ => rfl]
theorem el_lc {a : Addr} {n : Nat} {f : Nat → V} {tl : TE} {j : Nat} {vs : List Nat} (v : Nat → V) (h : Ev tl σ H (.ref a)) (hx : SqL K H a (vf n f)) (hz : n ≤ 40000) (hw : ∀ x, wipe ((wipe σ vs).set j (some x)) vs = wipe σ vs)
    (he : ∀ (i : Nat) H1, Ex H H1 → i < n → Ev te ((wipe σ vs).set j (some (f i))) H1 (v i)) : EvL (tLc (iList K tl) (gName j) tYes te vs) σ H (vf n v) := by
  have q := el_lcL (σ := σ) (H := H) (K := K) (te := te) (t := tYes) (j := j) (vs := vs) (fun _ => true) v h hx (by rw [vf_len]; exact hz) hw (fun i x H1 e hi => et_yes) (fun i x H1 e hi _ => by
    obtain ⟨h1, rfl⟩ := vf_at hi
    exact he i H1 e h1)
  rw [vf_len, given_all] at q
  exact q
/-- over a new list -/
theorem el_lcN {n : Nat} {f : Nat → V} {tl : TE} {j : Nat} {vs : List Nat} (v : Nat → V) (h : EvL tl σ H (vf n f)) (hz : n ≤ 40000) (hw : ∀ x, wipe ((wipe σ vs).set j (some x)) vs = wipe σ vs)
    (he : ∀ (i : Nat) H1, Ex H H1 → i < n → Ev te ((wipe σ vs).set j (some (f i))) H1 (v i)) : EvL (tLc (iList K tl) (gName j) tYes te vs) σ H (vf n v) := by
  have q := el_lcNL (σ := σ) (H := H) (K := K) (te := te) (t := tYes) (j := j) (vs := vs) (fun _ => true) v h (by rw [vf_len]; exact hz) hw (fun i x H1 e hi => et_yes) (fun i x H1 e hi _ => by
    obtain ⟨h1, rfl⟩ := vf_at hi
    exact he i H1 e h1)
  rw [vf_len, given_all] at q
  exact q
theorem el_lcR {ta : TA} {n : Nat} {j : Nat} {vs : List Nat} (v : Nat → V) (h : EvA ta σ H [.int (n : Int)]) (hn : n ≤ 40000) (hw : ∀ x, wipe ((wipe σ vs).set j (some x)) vs = wipe σ vs)
    (he : ∀ (i : Nat) H1, Ex H H1 → i < n → Ev te ((wipe σ vs).set j (some (.int (i : Int)))) H1 (v i)) : EvL (tLc (iRng1 ta) (gName j) tYes te vs) σ H (vf n v) := by
  have q := el_lcR1 (σ := σ) (H := H) (te := te) (t := tYes) (j := j) (vs := vs) (fun _ => true) v h (by omega) hw (fun i H1 e hi => et_yes) (fun i H1 e hi _ => he i H1 e (by omega))
  rw [given_all, Int.toNat_natCast] at q
  exact q
/-! ### comprehensions over two lists -/
theorem lc_zip {a b : Addr} {xs ys : List V} {g : TG} {tt : TT} {vs : List Nat} {H1 : Hp} {D : Addr} {Qd : Hp → Prop} (hl : xs.length = ys.length) (Pv : Nat → Hp → Prop) (h0 : Pv 0 (upd H1 D (.lst [])))
    (hq : ∀ i H, Pv i H → SqL K H a xs ∧ SqL K H b ys)
    (hs : ∀ i x y T H, xs[i]? = some x → ys[i]? = some y → Pv i H → H T = none → g (.ref T) (wipe σ vs) (upd H T (.tup [x, y])) fun σ2 H2 => wipe σ2 vs = wipe σ vs ∧ tt σ2 H2 fun b H3 =>
      if b = true then te σ2 H3 fun y H4 => ∃ acc, H4 D = some (.lst acc) ∧ acc.length < sizeLine ∧ Pv (i + 1) (upd H4 D (.lst (acc ++ [y]))) else Pv (i + 1) H3) (hd : ∀ H, Pv xs.length H → Qd H) :
    ∃ W : Nat → Nat → Hp → Prop, (∃ m, W 0 m (upd H1 D (.lst []))) ∧ ∀ i m H, W i m H →
      ((Itz K a b).stop i H ∧ Qd H) ∨ ((Itz K a b).go i H ∧ ∃ Nx : Hp → Prop, (∀ H', Nx H' → ∃ m', m' < m ∧ W (i + 1) m' H') ∧ ∀ x H', (Itz K a b).yld i H x H' → g x (wipe σ vs) H' fun σ2 H2 => wipe σ2 vs = wipe σ vs ∧ tt σ2 H2 fun b H3 =>
        if b = true then te σ2 H3 fun y H4 => ∃ acc, H4 D = some (.lst acc) ∧ acc.length < sizeLine ∧ Nx (upd H4 D (.lst (acc ++ [y]))) else Nx H3) := by
  refine ⟨fun i m H => m = xs.length - i ∧ i ≤ xs.length ∧ Pv i H, ⟨xs.length, by simp, Nat.zero_le _, h0⟩, ?_⟩
  rintro i m H ⟨rfl, hi, p⟩
  obtain ⟨q1, q2⟩ := hq i H p
  by_cases hlt : i < xs.length
  · have e1 := List.getElem?_eq_getElem hlt
    have e2 := List.getElem?_eq_getElem (show i < ys.length by omega)
    refine .inr ⟨⟨xs, ys, _, _, q1, q2, e1, e2⟩, Pv (i + 1), fun H' p' => ⟨xs.length - (i + 1), by omega, rfl, hlt, p'⟩, fun x H' y => ?_⟩
    obtain ⟨T, x', y', rfl, nT, rfl, f1, f2⟩ := y
    exact hs i x' y' T H (f1 _ q1) (f2 _ q2) p nT
  · have e : i = xs.length := by omega
    subst e
    exact .inl ⟨⟨xs, ys, q1, q2, .inl (Nat.le_refl _)⟩, hd H p⟩
theorem el_lcZ {ta : TA} {a b : Addr} {n : Nat} {f g : Nat → V} {i0 j0 : Nat} {vs : List Nat} (v : Nat → V) (h : EvA ta σ H [.ref a, .ref b]) (hx : SqL K H a (vf n f)) (hy : SqL K H b (vf n g)) (hz : n ≤ 40000)
    (hw : ∀ x y, wipe (((wipe σ vs).set i0 (some x)).set j0 (some y)) vs = wipe σ vs)
    (he : ∀ (i : Nat) H1, Ex H H1 → i < n → Ev te (((wipe σ vs).set i0 (some (f i))).set j0 (some (g i))) H1 (v i)) : EvL (tLc (iZip K ta) (gTup K 2 (gCons (gName i0) (gCons (gName j0) gNil))) tYes te vs) σ H (vf n v) := fun H0 e Q q =>
  h H0 e _ fun H1 e1 => ⟨a, b, _, _, rfl, ex_l (e.trans e1) hx, ex_l (e.trans e1) hy, fun Dl hD =>
    lc_zip (by rw [vf_len, vf_len]) (fun i H' => H1 Dl = none ∧ Ex H1 H' ∧ H' Dl = some (.lst (vf i v))) ⟨hD, Ex.new hD, upd_same⟩ (fun i H' p => ⟨ex_l ((e.trans e1).trans p.2.1) hx, ex_l ((e.trans e1).trans p.2.1) hy⟩)
      (fun i x y T H' hi hj p nT => by
        obtain ⟨h1, rfl⟩ := vf_at hi
        obtain ⟨_, rfl⟩ := vf_at hj
        obtain ⟨p1, p2, p3⟩ := p
        have eT : Ex H' (upd H' T (.tup [f i, g i])) := Ex.new nT
        refine ⟨T, [f i, g i], rfl, st_of upd_same, rfl, f i, [g i], rfl, g i, [], rfl, rfl, hw _ _, ?_⟩
        show te _ _ _
        refine he i H1 (e.trans e1) h1 _ (p2.trans eT) _ fun H4 e4 => ⟨vf i v, e4 _ _ (eT _ _ p3), vf_szl (by omega), p1, Ex.mut ((p2.trans eT).trans e4) p1, ?_⟩
        rw [vf_succ]
        exact upd_same)
      (fun H' p => by
        rw [vf_len] at p
        exact q Dl H' (fresh_back e1 p.1) (e1.trans p.2.1) p.2.2)⟩
/-! ### loops over two lists, over a list with its places -/
variable {D : Ends} {tu tz : TS}
theorem s_forE {ta : TA} {a : Addr} {n : Nat} {f : Nat → V} {i0 j0 : Nat} (h : EvA ta σ H [.ref a]) (hx : SqL K H a (vf n f)) (Pv : Nat → L2.St → Hp → Prop) (h0 : ∀ H1, Ex H H1 → Pv 0 σ H1) (hl : ∀ i σ' H', i ≤ n → Pv i σ' H' → SqL K H' a (vf n f))
    (hs : ∀ (i : Nat) σ' H' H1, i < n → Pv i σ' H' → Ex H' H1 → tu { D with nx := Pv (i + 1), ct := Pv (i + 1), bk := D.nx } ((σ'.set i0 (some (.int (i : Int)))).set j0 (some (f i))) H1) (hd : ∀ σ' H', Pv n σ' H' → D.nx σ' H') :
    tFor (iEnum K ta) (gTup K 2 (gCons (gName i0) (gCons (gName j0) gNil))) tu D σ H := h H (Ex.refl H) _ fun H1 e => by
  refine ⟨a, _, rfl, ex_l e hx, fun i m σ' H' => m = n - i ∧ i ≤ n ∧ Pv i σ' H', ⟨n, by simp, Nat.zero_le _, h0 H1 e⟩, fun i m σ' H' hw => ?_⟩
  obtain ⟨rfl, hi, p⟩ := hw
  have q := hl i σ' H' hi p
  by_cases hlt : i < n
  · refine .inr ⟨⟨_, _, q, vf_get hlt⟩, Pv (i + 1), fun σ2 H2 p' => ⟨n - (i + 1), by omega, rfl, hlt, p'⟩, fun x H2 y => ?_⟩
    obtain ⟨T, z, rfl, nT, rfl, f1⟩ := y
    obtain ⟨_, rfl⟩ := vf_at (f1 _ q)
    exact ⟨T, _, rfl, st_of upd_same, rfl, _, _, rfl, _, _, rfl, rfl, hs i σ' H' _ hlt p (Ex.new nT)⟩
  · have e2 : i = n := by omega
    subst e2
    exact .inl ⟨⟨_, q, by rw [vf_len]; exact Nat.le_refl _⟩, hd σ' H' p⟩
theorem q_forE {ta : TA} {a : Addr} {n : Nat} {f : Nat → V} {i0 j0 : Nat} (h : EvA ta σ H [.ref a]) (hx : SqL K H a (vf n f)) (Pv : Nat → L2.St → Hp → Prop) (h0 : ∀ H1, Ex H H1 → Pv 0 σ H1) (hl : ∀ i σ' H', i ≤ n → Pv i σ' H' → SqL K H' a (vf n f))
    (hs : ∀ (i : Nat) σ' H' H1, i < n → Pv i σ' H' → Ex H' H1 → tu { D with nx := Pv (i + 1), ct := Pv (i + 1), bk := tz D } ((σ'.set i0 (some (.int (i : Int)))).set j0 (some (f i))) H1) (hd : ∀ σ' H', Pv n σ' H' → tz D σ' H') :
    tSeq (tFor (iEnum K ta) (gTup K 2 (gCons (gName i0) (gCons (gName j0) gNil))) tu) tz D σ H := s_forE (D := { D with nx := tz D }) h hx Pv h0 hl hs hd
theorem s_forZ {ta : TA} {a b : Addr} {n : Nat} {f g : Nat → V} {i0 j0 : Nat} (h : EvA ta σ H [.ref a, .ref b]) (hx : SqL K H a (vf n f)) (hy : SqL K H b (vf n g)) (Pv : Nat → L2.St → Hp → Prop) (h0 : ∀ H1, Ex H H1 → Pv 0 σ H1)
    (hl : ∀ i σ' H', i ≤ n → Pv i σ' H' → SqL K H' a (vf n f) ∧ SqL K H' b (vf n g))
    (hs : ∀ (i : Nat) σ' H' H1, i < n → Pv i σ' H' → Ex H' H1 → tu { D with nx := Pv (i + 1), ct := Pv (i + 1), bk := D.nx } ((σ'.set i0 (some (f i))).set j0 (some (g i))) H1) (hd : ∀ σ' H', Pv n σ' H' → D.nx σ' H') :
    tFor (iZip K ta) (gTup K 2 (gCons (gName i0) (gCons (gName j0) gNil))) tu D σ H := h H (Ex.refl H) _ fun H1 e => by
  refine ⟨a, b, _, _, rfl, ex_l e hx, ex_l e hy, fun i m σ' H' => m = n - i ∧ i ≤ n ∧ Pv i σ' H', ⟨n, by simp, Nat.zero_le _, h0 H1 e⟩, fun i m σ' H' hw => ?_⟩
  obtain ⟨rfl, hi, p⟩ := hw
  obtain ⟨q1, q2⟩ := hl i σ' H' hi p
  by_cases hlt : i < n
  · refine .inr ⟨⟨_, _, _, _, q1, q2, vf_get hlt, vf_get hlt⟩, Pv (i + 1), fun σ2 H2 p' => ⟨n - (i + 1), by omega, rfl, hlt, p'⟩, fun x H2 y => ?_⟩
    obtain ⟨T, z, z', rfl, nT, rfl, f1, f2⟩ := y
    obtain ⟨_, rfl⟩ := vf_at (f1 _ q1)
    obtain ⟨_, rfl⟩ := vf_at (f2 _ q2)
    exact ⟨T, _, rfl, st_of upd_same, rfl, _, _, rfl, _, _, rfl, rfl, hs i σ' H' _ hlt p (Ex.new nT)⟩
  · have e2 : i = n := by omega
    subst e2
    exact .inl ⟨⟨_, _, q1, q2, .inl (by rw [vf_len]; exact Nat.le_refl _)⟩, hd σ' H' p⟩
theorem q_forZ {ta : TA} {a b : Addr} {n : Nat} {f g : Nat → V} {i0 j0 : Nat} (h : EvA ta σ H [.ref a, .ref b]) (hx : SqL K H a (vf n f)) (hy : SqL K H b (vf n g)) (Pv : Nat → L2.St → Hp → Prop) (h0 : ∀ H1, Ex H H1 → Pv 0 σ H1)
    (hl : ∀ i σ' H', i ≤ n → Pv i σ' H' → SqL K H' a (vf n f) ∧ SqL K H' b (vf n g))
    (hs : ∀ (i : Nat) σ' H' H1, i < n → Pv i σ' H' → Ex H' H1 → tu { D with nx := Pv (i + 1), ct := Pv (i + 1), bk := tz D } ((σ'.set i0 (some (f i))).set j0 (some (g i))) H1) (hd : ∀ σ' H', Pv n σ' H' → tz D σ' H') :
    tSeq (tFor (iZip K ta) (gTup K 2 (gCons (gName i0) (gCons (gName j0) gNil))) tu) tz D σ H := s_forZ (D := { D with nx := tz D }) h hx hy Pv h0 hl hs hd
/-- over a list by its places -/
theorem s_forf {a : Addr} {n : Nat} {f : Nat → V} {tl : TE} {j : Nat} (h : Ev tl σ H (.ref a)) (hx : SqL K H a (vf n f)) (Pv : Nat → L2.St → Hp → Prop) (h0 : ∀ H1, Ex H H1 → Pv 0 σ H1) (hl : ∀ i σ' H', i ≤ n → Pv i σ' H' → SqL K H' a (vf n f))
    (hs : ∀ (i : Nat) σ' H', i < n → Pv i σ' H' → tu { D with nx := Pv (i + 1), ct := Pv (i + 1), bk := D.nx } (σ'.set j (some (f i))) H') (hd : ∀ σ' H', Pv n σ' H' → D.nx σ' H') : tFor (iList K tl) (gName j) tu D σ H :=
  s_forLn h hx Pv h0 (fun i σ' H' hi => hl i σ' H' (by rw [vf_len] at hi; exact hi)) (fun i x σ' H' hi p => by
    obtain ⟨h1, rfl⟩ := vf_at hi
    exact hs i σ' H' h1 p) (fun σ' H' p => hd σ' H' (by rw [vf_len] at p; exact p))
theorem q_forf {a : Addr} {n : Nat} {f : Nat → V} {tl : TE} {j : Nat} (h : Ev tl σ H (.ref a)) (hx : SqL K H a (vf n f)) (Pv : Nat → L2.St → Hp → Prop) (h0 : ∀ H1, Ex H H1 → Pv 0 σ H1) (hl : ∀ i σ' H', i ≤ n → Pv i σ' H' → SqL K H' a (vf n f))
    (hs : ∀ (i : Nat) σ' H', i < n → Pv i σ' H' → tu { D with nx := Pv (i + 1), ct := Pv (i + 1), bk := tz D } (σ'.set j (some (f i))) H') (hd : ∀ σ' H', Pv n σ' H' → tz D σ' H') : tSeq (tFor (iList K tl) (gName j) tu) tz D σ H :=
  s_forf (D := { D with nx := tz D }) h hx Pv h0 hl hs hd
theorem s_forR {ta : TA} {j n : Nat} (h : EvA ta σ H [.int (n : Int)]) (hn : n ≤ 100000) (Pv : Nat → L2.St → Hp → Prop) (h0 : ∀ H1, Ex H H1 → Pv 0 σ H1)
    (hs : ∀ (i : Nat) σ' H', i < n → Pv i σ' H' → tu { D with nx := Pv (i + 1), ct := Pv (i + 1), bk := D.nx } (σ'.set j (some (.int (i : Int)))) H') (hd : ∀ σ' H', Pv n σ' H' → D.nx σ' H') : tFor (iRng1 ta) (gName j) tu D σ H :=
  s_forR1 h (by omega) Pv h0 (fun i σ' H' hi p => hs i σ' H' (by omega) p) (fun σ' H' p => hd σ' H' (by rw [Int.toNat_natCast] at p; exact p))
theorem q_forR {ta : TA} {j n : Nat} (h : EvA ta σ H [.int (n : Int)]) (hn : n ≤ 100000) (Pv : Nat → L2.St → Hp → Prop) (h0 : ∀ H1, Ex H H1 → Pv 0 σ H1)
    (hs : ∀ (i : Nat) σ' H', i < n → Pv i σ' H' → tu { D with nx := Pv (i + 1), ct := Pv (i + 1), bk := tz D } (σ'.set j (some (.int (i : Int)))) H') (hd : ∀ σ' H', Pv n σ' H' → tz D σ' H') : tSeq (tFor (iRng1 ta) (gName j) tu) tz D σ H :=
  s_forR (D := { D with nx := tz D }) h hn Pv h0 hs hd
end
end RP
namespace RP
open PySem PySem.Spec PyProof.Rows L2 Evl
/-! ### sorted whole numbers -/
def srt (ns : List Int) : List Int := ns.mergeSort fun a b => decide (a ≤ b)
theorem srt_perm (ns : List Int) : (srt ns).Perm ns := List.mergeSort_perm _ _
theorem srt_rise (ns : List Int) : (srt ns).Pairwise (· ≤ ·) := by
  have h := List.pairwise_mergeSort (le := fun (a b : Int) => decide (a ≤ b)) (fun a b c h1 h2 => by simp only [decide_eq_true_eq] at *; omega) (fun a b => by simp only [Bool.or_eq_true, decide_eq_true_eq]; omega) ns
  exact List.Pairwise.imp (fun h => of_decide_eq_true h) h
theorem srt_one {ns ms : List Int} (h1 : ms.Perm ns) (h2 : ms.Pairwise (· ≤ ·)) : ms = srt ns :=
  List.Perm.eq_of_pairwise (fun a b _ _ h1 h2 => Int.le_antisymm h1 h2) h2 (srt_rise ns) (h1.trans (srt_perm ns).symm)
theorem il_nodup {n : Nat} {f : Nat → Int} : (il n f).Nodup ↔ ∀ i j, i < n → j < n → f i = f j → i = j := by
  constructor
  · intro h i j hi hj e
    have a := il_get (f := f) hi
    have b := il_get (f := f) hj
    rw [e] at a
    exact nd_ix h a b
  · induction n with
    | zero => exact fun _ => List.nodup_nil
    | succ n ih =>
      intro h
      rw [il_succ, List.nodup_append]
      refine ⟨ih fun i j hi hj e => h i j (by omega) (by omega) e, by simp, fun a ha b hb e => ?_⟩
      obtain ⟨i, hi, ei⟩ := il_mem.mp ha
      rw [List.mem_singleton] at hb
      have := h i n (by omega) (by omega) (by rw [ei, e, hb])
      omega
theorem il_rise (n : Nat) : (il n fun i => (i : Int)).Pairwise (· ≤ ·) := by
  induction n with
  | zero => exact List.Pairwise.nil
  | succ n ih =>
    rw [il_succ, List.pairwise_append]
    refine ⟨ih, by simp, fun a ha b hb => ?_⟩
    obtain ⟨i, hi, ei⟩ := il_mem.mp ha
    rw [List.mem_singleton] at hb
    omega
/-- each room once -/
def Gv (n : Nat) (f : Nat → Int) : Prop := ∃ g : Nat → Nat, Pm n g ∧ ∀ i, i < n → f i = ((g i : Nat) : Int)
theorem srt_gv {n : Nat} {f : Nat → Int} : srt (il n f) = (il n fun i => (i : Int)) ↔ Gv n f := by
  constructor
  · intro e
    have hp : (il n fun i => (i : Int)).Perm (il n f) := by
      rw [← e]
      exact srt_perm _
    have hm : ∀ i, i < n → ∃ k, k < n ∧ f i = ((k : Nat) : Int) := fun i hi => by
      have h := hp.mem_iff.mpr (il_mem.mpr ⟨i, hi, rfl⟩)
      obtain ⟨k, hk, ek⟩ := il_mem.mp h
      exact ⟨k, hk, ek.symm⟩
    have hn : (il n f).Nodup := hp.nodup_iff.mp (il_nodup.mpr fun i j _ _ e => by omega)
    refine ⟨fun i => (f i).toNat, ⟨fun i hi => ?_, fun i j hi hj e => ?_⟩, fun i hi => ?_⟩
    · obtain ⟨k, hk, ek⟩ := hm i hi
      show (f i).toNat < n
      omega
    · obtain ⟨k, hk, ek⟩ := hm i hi
      obtain ⟨k', hk', ek'⟩ := hm j hj
      have e : (f i).toNat = (f j).toNat := e
      exact il_nodup.mp hn i j hi hj (by omega)
    · obtain ⟨k, hk, ek⟩ := hm i hi
      show f i = (((f i).toNat : Nat) : Int)
      omega
  · rintro ⟨g, G, hg⟩
    refine (srt_one ?_ (il_rise n)).symm
    rw [List.perm_iff_count]
    intro z
    have n1 : (il n fun i => (i : Int)).Nodup := il_nodup.mpr fun i j _ _ e => by omega
    have n2 : (il n f).Nodup := il_nodup.mpr fun i j hi hj e => by
      rw [hg i hi, hg j hj] at e
      exact G.inj i j hi hj (by omega)
    rw [n1.count, n2.count]
    have hiff : z ∈ (il n fun i => (i : Int)) ↔ z ∈ il n f := by
      rw [il_mem, il_mem]
      constructor
      · rintro ⟨k, hk, rfl⟩
        obtain ⟨i, hi, e⟩ := G.sur k hk
        exact ⟨i, hi, by rw [hg i hi, e]⟩
      · rintro ⟨i, hi, rfl⟩
        exact ⟨g i, G.lt i hi, (hg i hi).symm⟩
    by_cases hz : z ∈ il n f
    · rw [if_pos hz, if_pos (hiff.mpr hz)]
    · rw [if_neg hz, if_neg fun q => hz (hiff.mp q)]
section
variable {K : PySem.W.Frag} {σ : L2.St} {H H' : Hp} {ta tb tc te tx : TE} {t u : TT} {x y z v : V} {r : R2}
theorem el_srt {p : Addr} {n : Nat} {f : Nat → Int} (ha : Ev ta σ H (.ref p)) (h : SqL K H p (vl n f)) (hl : n < 64) : EvL (tCB (rSorted K) (tCons ta tNil)) σ H ((srt (il n f)).map V.int) :=
  el_sort (ns := il n f) ha (by rw [← vl_il]; exact h) (by rw [il_len]; exact hl) fun ns' h1 h2 => srt_one h1 h2
/-- sorted(xs) != list(range(n)) -/
theorem ev_srtNe {p : Addr} {n m : Nat} {f : Nat → Int} (ha : Ev ta σ H (.ref p)) (h : SqL K H p (vl n f)) (hl : n < 64) (hb : Ev tb σ H (.int (m : Int))) (hm : m ≤ 1000) :
    Ev (tOp (rNeD K) (tCB (rSorted K) (tCons ta tNil)) (tLstRg (tRg1 tb))) σ H (.bl (!decide (srt (il n f) = il m fun i => (i : Int)))) :=
  ev_is (evd_ne (evd_lst (el_srt ha h hl)) (evd_vl (el_rng hb (by omega))) (dI_shaped _) (dI_shaped _)) (by rw [eqv_ints])
end
/-! ### the greatest of some -/
theorem has_max : ∀ (n : Nat) (f : Nat → Int), 0 < n → ∃ m, (∃ i, i < n ∧ f i = m) ∧ ∀ i, i < n → f i ≤ m
  | 0, _, h => absurd h (Nat.lt_irrefl 0)
  | 1, f, _ => ⟨f 0, ⟨0, Nat.zero_lt_one, rfl⟩, fun i hi => by
    have : i = 0 := by omega
    rw [this]
    exact Int.le_refl _⟩
  | n + 2, f, _ => by
    obtain ⟨m, ⟨i, hi, ei⟩, hm⟩ := has_max (n + 1) f (by omega)
    by_cases h : f (n + 1) ≤ m
    · exact ⟨m, ⟨i, by omega, ei⟩, fun k hk => by
        by_cases e : k = n + 1
        · rw [e]
          exact h
        · exact hm k (by omega)⟩
    · exact ⟨f (n + 1), ⟨n + 1, by omega, rfl⟩, fun k hk => by
        by_cases e : k = n + 1
        · rw [e]
          exact Int.le_refl _
        · have := hm k (by omega)
          omega⟩
/-- by which a statement is told -/
noncomputable def dec (p : Prop) : Bool := @decide p (Classical.propDecidable p)
theorem dec_iff {p : Prop} : dec p = true ↔ p := @decide_eq_true_iff p (Classical.propDecidable p)
theorem dec_of {p : Prop} (h : p) : dec p = true := dec_iff.mpr h
theorem dec_no {p : Prop} (h : ¬ p) : dec p = false := by
  cases e : dec p with
  | false => rfl
  | true => exact absurd (dec_iff.mp e) h
theorem dec_eq {p : Prop} {b : Bool} (h : b = true ↔ p) : b = dec p := by
  rw [Bool.eq_iff_iff, dec_iff]
  exact h
/-! ### what is handed in: values of a known kind -/
def isInt : V → Bool
  | .int _ => true
  | _ => false
def kinds : List String := ["NoneType", "bool", "int", "str", "list", "tuple", "dict"]
structure Kn (K : PySem.W.Frag) (H : Hp) (x : V) (T : String) : Prop where
  ty : TyX K H x (.type T)
  mem : T ∈ kinds
  int : isInt x = (T == "int")
/-- a row: whether it is a list of so many whole numbers -/
inductive RowV (K : PySem.W.Frag) (H : Hp) (many : Nat) : V → Bool → Prop
  | no {x : V} {T : String} (h : Kn K H x T) (hT : T ≠ "list") : RowV K H many x false
  | lst {a : Addr} {m : Nat} {f : Nat → V} (h : SqL K H a (vf m f)) (hm : m ≤ 1000) (hk : ∀ i, i < m → ∃ T, Kn K H (f i) T) : RowV K H many (.ref a) (decide (m = many) && (bf m fun i => isInt (f i)).all id)
/-- a table: whether it is one -/
inductive TabV (K : PySem.W.Frag) (H : Hp) : V → Bool → Prop
  | no {x : V} {T : String} (h : Kn K H x T) (hT : T ≠ "list") : TabV K H x false
  | lst {a : Addr} {m : Nat} {f : Nat → V} {b : Nat → Bool} (h : SqL K H a (vf m f)) (hm : m ≤ 1000) (hk : ∀ i, i < m → RowV K H m (f i) (b i)) : TabV K H (.ref a) (decide (1 ≤ m ∧ m ≤ 12) && (bf m b).all id)
section
variable {K : PySem.W.Frag} {H H' : Hp}
theorem Kn.mono (e : Ex H H') {x : V} {T : String} (h : Kn K H x T) : Kn K H' x T := ⟨tyx_mono e h.ty, h.mem, h.int⟩
theorem RowV.mono (e : Ex H H') {m : Nat} {x : V} {b : Bool} (h : RowV K H m x b) : RowV K H' m x b := by
  cases h with
  | no h hT => exact .no (h.mono e) hT
  | lst h hm hk => exact .lst (ex_l e h) hm fun i hi => let ⟨T, q⟩ := hk i hi; ⟨T, q.mono e⟩
theorem TabV.mono (e : Ex H H') {x : V} {b : Bool} (h : TabV K H x b) : TabV K H' x b := by
  cases h with
  | no h hT => exact .no (h.mono e) hT
  | lst h hm hk => exact .lst (ex_l e h) hm fun i hi => (hk i hi).mono e
theorem Kn.num (z : Int) : Kn K H (.int z) "int" := ⟨.base (.int z), by decide, rfl⟩
theorem Kn.non : Kn K H .non "NoneType" := ⟨.base .non, by decide, rfl⟩
theorem Kn.bl (b : Bool) : Kn K H (.bl b) "bool" := ⟨.base (.bl b), by decide, rfl⟩
theorem Kn.str (s : Str) : Kn K H (.str s) "str" := ⟨.base (.str s), by decide, rfl⟩
theorem Kn.lst {a : Addr} {xs : List V} (h : SqL K H a xs) : Kn K H (.ref a) "list" := ⟨tyx_list h, by decide, rfl⟩
theorem Kn.tup {a : Addr} {xs : List V} (h : SqT K H a xs) : Kn K H (.ref a) "tuple" := ⟨tyx_tup h, by decide, rfl⟩
theorem Kn.dict {a : Addr} {kvs : List (Key × V)} (h : H a = some (.dK kvs)) : Kn K H (.ref a) "dict" := ⟨.base (.dK h), by decide, rfl⟩
theorem RowV.good {a : Addr} {n : Nat} {f : Nat → Int} (h : SqL K H a (vl n f)) (hn : n ≤ 1000) : RowV K H n (.ref a) true := by
  have q := RowV.lst (many := n) h hn fun i _ => ⟨_, Kn.num (f i)⟩
  rw [decide_eq_true rfl, show (bf n fun i => isInt (V.int (f i))).all id = true from bf_all.mpr fun i _ => rfl] at q
  exact q
theorem TabV.good {t : Addr} {n : Nat} {a : Nat → Addr} {M : Nat → Nat → Int} (h : Tab K H t n a M) (h1 : 1 ≤ n) (h2 : n ≤ 12) : TabV K H (.ref t) true := by
  have q := TabV.lst (b := fun _ => true) h.rows (by omega) fun i hi => RowV.good (h.row i hi) (by omega)
  rw [decide_eq_true ⟨h1, h2⟩, bf_all.mpr fun i _ => rfl] at q
  exact q
end
theorem kit_num {T : String} (h : T ∈ kinds) : kitB T "int" = some (T == "int" || T == "bool") ∧ kitB T "bool" = some (T == "bool") ∧ kitB T "list" = some (T == "list") := by
  simp only [kinds, List.mem_cons, List.mem_nil_iff, or_false] at h
  rcases h with h | h | h | h | h | h | h <;> subst h <;> decide +kernel
/-- an own exception over ValueError -/
structure Xc (K : PySem.W.Frag) (mg : Str → Option Value) (x : Str) (C : Addr) : Prop where
  g : mg x = some (.ref C)
  x : PySem.W.excIn K C [.type "ValueError", .type "Exception", .type "BaseException", .type "object"] "ValueError.__new__" = true
  k : PySem.W.keepIn K (.ref C) = true
  b : PySem.W.subIn K (.ref C) (.type "BaseException") = some true
  t : PySem.W.typeIn K (.ref C) = some (.type "type")
/-- it is raised -/
def RetX (C : Addr) (H : Hp) (E : XK) : Prop := ∀ H', Ex H H' → E (.ref C) none H'
end RP
namespace RP
open PySem PySem.Spec PyProof.Rows L2 Evl
/-! ### rules whose written part is told (they stand within blocks, too) -/
section
variable {X : Cx} (K : PySem.W.Frag)
theorem k_len (h : X.K = K := by rfl) : CallR X (.builtin "len") (rLenS K) := by
  subst h
  exact call_len_seq
theorem k_list (h : X.K = K := by rfl) : CallR X (.type "list") (rListS K) := by
  subst h
  exact call_list_of
theorem k_isi (h : X.K = K := by rfl) : CallR X (.builtin "isinstance") (rIsi K) := by
  subst h
  exact call_isi
theorem k_sum (hc : X.calm = true := by rfl) (h : X.K = K := by rfl) : CallR X (.builtin "sum") (rSum K) := by
  subst h
  exact cr_sum hc
theorem k_max (hc : X.calm = true := by rfl) (h : X.K = K := by rfl) : CallR X (.builtin "max") (rMax K) := by
  subst h
  exact cr_max hc
theorem k_min (hc : X.calm = true := by rfl) (h : X.K = K := by rfl) : CallR X (.builtin "min") (rMin K) := by
  subst h
  exact cr_min hc
theorem k_all (hc : X.calm = true := by rfl) (h : X.K = K := by rfl) : CallR X (.builtin "all") (rAll K) := by
  subst h
  exact cr_all hc
theorem k_any (hc : X.calm = true := by rfl) (h : X.K = K := by rfl) : CallR X (.builtin "any") (rAny K) := by
  subst h
  exact cr_any hc
theorem k_sorted (h : X.K = K := by rfl) : CallR X (.builtin "sorted") (rSorted K) := by
  subst h
  exact cr_sorted
theorem k_ix (h : X.K = K := by rfl) : IxR X (rIxL K) := by
  subst h
  exact ix_list
theorem k_ixt (h : X.K = K := by rfl) : IxR X (rIxT K) := by
  subst h
  exact ix_tup
theorem k_in (h : X.K = K := by rfl) : OpR X (compareOp .In) (rIn K false) := by
  subst h
  exact op_in_seq
theorem k_notIn (h : X.K = K := by rfl) : OpR X (compareOp .NotIn) (rIn K true) := by
  subst h
  exact op_notIn_seq
theorem k_eqD (hu : X.A.units + 64 < cLine) (h : X.K = K := by rfl) : OpR X (compareOp .Eq) (rEqD K) := by
  subst h
  exact op_eqD hu
theorem k_neD (hu : X.A.units + 64 < cLine) (h : X.K = K := by rfl) : OpR X (compareOp .NotEq) (rNeD K) := by
  subst h
  exact op_neD hu
theorem k_sl (h : X.K = K := by rfl) : SlR X (rSlL K) := by
  subst h
  exact sl_list
variable {e e2 o : Expr} {ta te tl : TE} {t : TA} {tg : Expr} {pos p tpos : Pos} {elts : List Expr} {kk : Nat} {f : Str}
theorem pi_l (hl : PE X e tl) (h : X.K = K := by rfl) : PI X tg e (iList K tl) := by
  subst h
  exact pi_list hl
theorem pi_en (hg : Gl X "enumerate") (hm : X.mg "enumerate" = none) (ha : PA X [e] t) (h : X.K = K := by rfl) (hs : starEach [e] X.env = [(false, eval e X.env)] := by rfl) :
    PI X (.Tuple elts kk tpos) (.Call (.Name "enumerate" p) [e] [] pos) (iEnum K t) := by
  subst h
  exact pi_enum hg hm ha hs
theorem pi_zp (hg : Gl X "zip") (hm : X.mg "zip" = none) (ha : PA X [e, e2] t) (h : X.K = K := by rfl)
    (hs : starEach [e, e2] X.env = (false, eval e X.env) :: starEach [e2] X.env := by rfl) (hpl : (backTo pos (starEach [e2] X.env)).any (·.1) = false := by rfl) :
    PI X (.Tuple elts kk tpos) (.Call (.Name "zip" p) [e, e2] [] pos) (iZip K t) := by
  subst h
  exact pi_zip hg hm ha hs hpl
theorem pg_t {es : List Expr} {k : Nat} {t : TGs} {n : Nat} (hc : X.calm = true) (ha : PGs X es t) (h : X.K = K := by rfl)
    (hn : (assignEach es X.env).length = n := by rfl) (hst : (assignEach es X.env).findIdx? (·.1) = none := by rfl) : PG X (.Tuple es k pos) (gTup K n t) := by
  subst h
  exact pg_tup hc ha hn hst
theorem pe_f (he : PE X e ta) (hb : attributeBase e f X.env (eval e X.env) = eval e X.env) (h : X.K = K := by rfl) : PE X (.Attribute e f pos) (tFld K ta f) := by
  subst h
  exact pe_fld he hb
theorem pe_rv {k : Nat} {p1 p2 p3 : Pos} (he : PE X e te) (h : X.K = K := by rfl) : PE X (.Subscript e (.Slice none none (some (.UnaryOp .USub (.Constant (.int 1) k p1) p2)) p3) pos) (tRevL K te) := by
  subst h
  exact pe_revL he
theorem pe_ls {a : Expr} {p2 q : Pos} (hg : Gl X "len") (hm : X.mg "len" = none) (hg2 : Gl X "set") (hm2 : X.mg "set" = none) (ha : PE X a ta) (h : X.K = K := by rfl) (hc : X.calm = true := by rfl)
    (na : starEach [a] X.env = (false, eval a X.env) :: starEach [] X.env := by rfl) : PE X (.Call (.Name "len" p) [.Call (.Name "set" p2) [a] [] q] [] pos) (tLenSetX K ta) := by
  subst h
  exact pe_lenSetX hg hm hg2 hm2 ha hc na
end
end RP
namespace RP
open PySem PySem.Spec PyProof.Rows L2 Evl
/-! ### new lists of new lists -/
def EvM (te : TE) (σ : L2.St) (H : Hp) (n : Nat) (rows : Nat → List V) : Prop := ∀ H1, Ex H H1 → ∀ Q : VK, (∀ p a H2, H1 p = none → Ex H1 H2 → H2 p = some (.lst (vr n a)) → (∀ i, i < n → H1 (a i) = none ∧ H2 (a i) = some (.lst (rows i))) →
  (∀ i j, i < n → j < n → a i = a j → i = j) → (∀ i, i < n → a i ≠ p) → Q (.ref p) H2) → te σ H1 Q
def RetM (n : Nat) (rows : Nat → List V) (H : Hp) (Q : VK) : Prop := ∀ p a H2, H p = none → Ex H H2 → H2 p = some (.lst (vr n a)) → (∀ i, i < n → H (a i) = none ∧ H2 (a i) = some (.lst (rows i))) →
  (∀ i j, i < n → j < n → a i = a j → i = j) → (∀ i, i < n → a i ≠ p) → Q (.ref p) H2
section
variable {K : PySem.W.Frag} {σ : L2.St} {H H' : Hp} {ta tb tc te tx : TE} {t u : TT} {x y z v : V} {r : R2}
theorem EvM.mono {n : Nat} {rows : Nat → List V} (e : Ex H H') (h : EvM te σ H n rows) : EvM te σ H' n rows := fun H1 a Q q => h H1 (e.trans a) Q q
/-- what stands of the list that grows -/
structure Grow (H1 : Hp) (D : Addr) (rows : Nat → List V) (i : Nat) (H' : Hp) : Prop where
  nd : H1 D = none
  ex : Ex H1 H'
  at_ : ∃ a : Nat → Addr, H' D = some (.lst (vr i a)) ∧ (∀ k, k < i → H1 (a k) = none ∧ H' (a k) = some (.lst (rows k)) ∧ a k ≠ D) ∧ ∀ k m, k < i → m < i → a k = a m → k = m
theorem Grow.step {H1 : Hp} {D : Addr} {rows : Nat → List V} {i : Nat} (g : Grow H1 D rows i H') (hi : i < 50000) {te : TE} {σ2 : L2.St} (he : EvL te σ2 H1 (rows i)) :
    te σ2 H' fun y H4 => ∃ acc, H4 D = some (.lst acc) ∧ acc.length < sizeLine ∧ Grow H1 D rows (i + 1) (upd H4 D (.lst (acc ++ [y]))) := by
  obtain ⟨a, h1, h2, h3⟩ := g.at_
  refine he H' g.ex _ fun p H4 np e4 h4 => ⟨vr i a, e4 _ _ h1, vf_szl (by omega), g.nd, Ex.mut (g.ex.trans e4) g.nd, fset a i p, ?_, fun k hk => ?_, fun k m hk hm e => ?_⟩
  · rw [upd_same, vr_succ, fset_same]
    congr 2
    exact congrArg (· ++ [V.ref p]) (vf_congr fun k hk => by rw [fset_ne _ _ (by omega)])
  · have nDp : p ≠ D := fun q => by
      rw [q, h1] at np
      cases np
    by_cases e : k = i
    · subst e
      rw [fset_same]
      exact ⟨fresh_back g.ex np, by rw [upd_ne nDp]; exact h4, nDp⟩
    · rw [fset_ne _ _ e]
      obtain ⟨q1, q2, q3⟩ := h2 k (by omega)
      exact ⟨q1, by rw [upd_ne q3]; exact e4 _ _ q2, q3⟩
  · have ne : ∀ k, k < i → a k ≠ p := fun k hk q => by
      have := (h2 k hk).2.1
      rw [q, np] at this
      cases this
    by_cases ek : k = i <;> by_cases em : m = i
    · omega
    · rw [ek, fset_same, fset_ne _ _ em] at e
      exact absurd e.symm (ne m (by omega))
    · rw [em, fset_same, fset_ne _ _ ek] at e
      exact absurd e (ne k (by omega))
    · rw [fset_ne _ _ ek, fset_ne _ _ em] at e
      exact h3 k m (by omega) (by omega) e
theorem em_lc {a : Addr} {n : Nat} {f : Nat → V} {tl : TE} {j : Nat} {vs : List Nat} (rows : Nat → List V) (h : Ev tl σ H (.ref a)) (hx : SqL K H a (vf n f)) (hz : n ≤ 40000) (hw : ∀ x, wipe ((wipe σ vs).set j (some x)) vs = wipe σ vs)
    (he : ∀ (i : Nat) H1, Ex H H1 → i < n → EvL te ((wipe σ vs).set j (some (f i))) H1 (rows i)) : EvM (tLc (iList K tl) (gName j) tYes te vs) σ H n rows := fun H0 e Q q => h H0 e _ fun H1 e1 => ⟨a, rfl, ⟨_, ex_l (e.trans e1) hx⟩, fun Dl hD =>
  lc_list (xs := vf n f) (Grow H1 Dl rows) ⟨hD, Ex.new hD, fun _ => 0, upd_same, fun k hk => absurd hk (Nat.not_lt_zero k), fun k m hk => absurd hk (Nat.not_lt_zero k)⟩ (fun i H' _ p => ex_l ((e.trans e1).trans p.ex) hx) (fun i x H' hi p => by
    obtain ⟨h1, rfl⟩ := vf_at hi
    refine ⟨hw _, ?_⟩
    exact p.step (by omega) (he i H1 (e.trans e1) h1))
    (fun H' p => by
      rw [vf_len] at p
      obtain ⟨a', q1, q2, q3⟩ := p.at_
      exact q Dl a' H' (fresh_back e1 p.nd) (e1.trans p.ex) q1 (fun i hi => ⟨fresh_back e1 (q2 i hi).1, (q2 i hi).2.1⟩) q3 fun i hi => (q2 i hi).2.2)⟩
theorem em_lcR {ta : TA} {n : Nat} {j : Nat} {vs : List Nat} (rows : Nat → List V) (h : EvA ta σ H [.int (n : Int)]) (hz : n ≤ 40000) (hw : ∀ x, wipe ((wipe σ vs).set j (some x)) vs = wipe σ vs)
    (he : ∀ (i : Nat) H1, Ex H H1 → i < n → EvL te ((wipe σ vs).set j (some (.int (i : Int)))) H1 (rows i)) : EvM (tLc (iRng1 ta) (gName j) tYes te vs) σ H n rows := fun H0 e Q q => h H0 e _ fun H1 e1 => ⟨(n : Int), rfl, by omega, by omega, fun Dl hD =>
  lc_range (lo := 0) (n := (n : Int).toNat) (Grow H1 Dl rows) ⟨hD, Ex.new hD, fun _ => 0, upd_same, fun k hk => absurd hk (Nat.not_lt_zero k), fun k m hk => absurd hk (Nat.not_lt_zero k)⟩ (fun i H' hi p => by
    have e0 : (0 : Int) + (i : Int) = (i : Int) := Int.zero_add _
    show wipe ((wipe σ vs).set j (some (.int ((0 : Int) + (i : Int))))) vs = wipe σ vs ∧ te ((wipe σ vs).set j (some (.int ((0 : Int) + (i : Int))))) H' _
    rw [e0]
    refine ⟨hw _, ?_⟩
    exact p.step (by omega) (he i H1 (e.trans e1) (by omega)))
    (fun H' p => by
      rw [Int.toNat_natCast] at p
      obtain ⟨a', q1, q2, q3⟩ := p.at_
      exact q Dl a' H' (fresh_back e1 p.nd) (e1.trans p.ex) q1 (fun i hi => ⟨fresh_back e1 (q2 i hi).1, (q2 i hi).2.1⟩) q3 fun i hi => (q2 i hi).2.2)⟩
theorem ev_addn {i j : Nat} (ha : Ev ta σ H (.int (i : Int))) (hb : Ev tb σ H (.int (j : Int))) : Ev (tOp (rI0 fun i j => .int (i + j)) ta tb) σ H (.int ((i + j : Nat) : Int)) := ev_is (ev_add ha hb) (by rw [Int.natCast_add])
theorem ev_subn {i j : Nat} (ha : Ev ta σ H (.int (i : Int))) (hb : Ev tb σ H (.int (j : Int))) (h : j ≤ i) : Ev (tOp (rI0 fun i j => .int (i - j)) ta tb) σ H (.int ((i - j : Nat) : Int)) := ev_is (ev_sub ha hb) (by rw [Int.natCast_sub h])
theorem ev_muln {i j : Nat} (ha : Ev ta σ H (.int (i : Int))) (hb : Ev tb σ H (.int (j : Int))) (h : i ≤ 1000) : Ev (tOp (rI (fun i j => IntMulOk i j) fun i j => .int (i * j)) ta tb) σ H (.int ((i * j : Nat) : Int)) := ev_is (ev_mul ha hb (mulok_n h)) (by rw [Int.natCast_mul])
theorem ev_modn {i j : Nat} (ha : Ev ta σ H (.int (i : Int))) (hb : Ev tb σ H (.int (j : Int))) (h : 0 < j) : Ev (tOp (rI (fun _ j => 0 < j) fun i j => .int (i % j)) ta tb) σ H (.int ((i % j : Nat) : Int)) := ev_is (ev_mod ha hb (by omega)) (by rw [Int.natCast_emod])
theorem ev_divn {i j : Nat} (ha : Ev ta σ H (.int (i : Int))) (hb : Ev tb σ H (.int (j : Int))) (h : 0 < j) (h2 : j < 2 ^ 63) : Ev (tOp (rI CDivW fun i j => .int (i / j)) ta tb) σ H (.int ((i / j : Nat) : Int)) := ev_is (ev_fdiv ha hb (by omega) (by omega)) (by rw [Int.natCast_ediv])
theorem et_isNon (ha : Ev ta σ H .non) : EvT (tTest (tOp (fun x y H Q => y = .non ∧ Q (.bl (decide (x = .non))) H) ta (tC .non))) σ H true := et_is (et_test (ev_isN ha)) rfl
theorem et_isInt {i : Int} (ha : Ev ta σ H (.int i)) : EvT (tTest (tOp (fun x y H Q => y = .non ∧ Q (.bl (decide (x = .non))) H) ta (tC .non))) σ H false := et_is (et_test (ev_isN ha)) (decide_eq_false fun e => nomatch e)
theorem et_isRef {i : Addr} (ha : Ev ta σ H (.ref i)) : EvT (tTest (tOp (fun x y H Q => y = .non ∧ Q (.bl (decide (x = .non))) H) ta (tC .non))) σ H false := et_is (et_test (ev_isN ha)) (decide_eq_false fun e => nomatch e)
theorem et_notNon (ha : Ev ta σ H .non) : EvT (tTest (tOp (fun x y H Q => y = .non ∧ Q (.bl (!decide (x = .non))) H) ta (tC .non))) σ H false := et_is (et_test (ev_notN ha)) rfl
theorem et_notRef {i : Addr} (ha : Ev ta σ H (.ref i)) : EvT (tTest (tOp (fun x y H Q => y = .non ∧ Q (.bl (!decide (x = .non))) H) ta (tC .non))) σ H true := et_is (et_test (ev_notN ha)) (by rw [decide_eq_false (fun e => nomatch e : ¬ V.ref i = V.non)]; rfl)
/-- a constant that is a number of things -/
theorem ev_cn {z : Int} {i : Nat} (h : z = (i : Int)) : Ev (tC (.int z)) σ H (.int (i : Int)) := by
  rw [h]
  exact ev_c
/-! ### stores at places; the maps told -/
variable {D : Ends} {tz : TS}
theorem q_asgM {i n : Nat} {rows : Nat → List V} (h : EvM te σ H n rows) (k : ∀ p a H1, H p = none → Ex H H1 → H1 p = some (.lst (vr n a)) → (∀ i, i < n → H (a i) = none ∧ H1 (a i) = some (.lst (rows i))) →
    (∀ i j, i < n → j < n → a i = a j → i = j) → (∀ i, i < n → a i ≠ p) → tz D (σ.set i (some (.ref p))) H1) : tSeq (tAsg te (gName i)) tz D σ H := h H (Ex.refl H) _ k
theorem el_ixM {i n : Nat} {rows : Nat → List V} {z : Int} (h : EvM te σ H n rows) (e : z = (i : Int)) (hi : i < n) : EvL (tOp (rIxL K) te (tC (.int z))) σ H (rows i) := fun H1 e1 Q q => h H1 e1 _ fun p a H2 np e2 hp ha ia na =>
  ⟨p, _, z, .ref (a i), rfl, rfl, sq_of hp, by rw [e]; exact at_vr hi, q (a i) H2 (ha i hi).1 e2 (ha i hi).2⟩
theorem s_retM {n : Nat} {rows : Nat → List V} (h : EvM te σ H n rows) (k : RetM n rows H D.rt) : tRet te D σ H := h H (Ex.refl H) _ k
theorem q_setl {l : Addr} {n j : Nat} {f : Nat → Int} {z : Int} (hl : H l = some (.lst (vl n f))) (h : Ev te σ H (.int z)) (ho : Ev ta σ H (.ref l)) (hi : Ev tb σ H (.int (j : Int))) (hj : j < n) (k : ∀ H1, Ex H H1 → tz D σ (upd H1 l (.lst (vl n (fset f j z))))) :
    tSeq (tAsg te (gSub ta tb rSetL)) tz D σ H := q_setL hl h ho hi (by rw [vf_len]; exact hj) fun H1 e => by
  rw [vl_set]
  exact k H1 e
theorem s_setl {l : Addr} {n j : Nat} {f : Nat → Int} {z : Int} (hl : H l = some (.lst (vl n f))) (h : Ev te σ H (.int z)) (ho : Ev ta σ H (.ref l)) (hi : Ev tb σ H (.int (j : Int))) (hj : j < n) (k : ∀ H1, Ex H H1 → D.nx σ (upd H1 l (.lst (vl n (fset f j z))))) :
    tAsg te (gSub ta tb rSetL) D σ H := s_setL hl h ho hi (by rw [vf_len]; exact hj) fun H1 e => by
  rw [vl_set]
  exact k H1 e
theorem q_setn {l : Addr} {n j z : Nat} {f : Nat → Nat} (hl : H l = some (.lst (vn n f))) (h : Ev te σ H (.int (z : Int))) (ho : Ev ta σ H (.ref l)) (hi : Ev tb σ H (.int (j : Int))) (hj : j < n) (k : ∀ H1, Ex H H1 → tz D σ (upd H1 l (.lst (vn n (fset f j z))))) :
    tSeq (tAsg te (gSub ta tb rSetL)) tz D σ H := q_setL hl h ho hi (by rw [vf_len]; exact hj) fun H1 e => by
  rw [vn_set]
  exact k H1 e
theorem s_setn {l : Addr} {n j z : Nat} {f : Nat → Nat} (hl : H l = some (.lst (vn n f))) (h : Ev te σ H (.int (z : Int))) (ho : Ev ta σ H (.ref l)) (hi : Ev tb σ H (.int (j : Int))) (hj : j < n) (k : ∀ H1, Ex H H1 → D.nx σ (upd H1 l (.lst (vn n (fset f j z))))) :
    tAsg te (gSub ta tb rSetL) D σ H := s_setL hl h ho hi (by rw [vf_len]; exact hj) fun H1 e => by
  rw [vn_set]
  exact k H1 e
/-- a number or None -/
def ov : Option Int → V
  | .none => .non
  | .some z => .int z
theorem ev_ixo {p : Addr} {n : Nat} {f : Nat → Option Int} {i : Nat} (ha : Ev ta σ H (.ref p)) (hb : Ev tb σ H (.int (i : Int))) (h : SqL K H p (vf n fun i => ov (f i))) (hi : i < n) : Ev (tOp (rIxL K) ta tb) σ H (ov (f i)) := ev_ix ha hb h (at_vf hi)
theorem vo_set {n : Nat} {f : Nat → Option Int} {j : Nat} {z : Int} : (vf n fun i => ov (f i)).set j (.int z) = vf n fun i => ov (fset f j (some z) i) := by
  rw [vf_set]
  refine vf_congr fun i _ => ?_
  by_cases e : i = j
  · subst e
    rw [fset_same, fset_same]
    rfl
  · rw [fset_ne _ _ e, fset_ne _ _ e]
def RetU (xs : List V) (H : Hp) (Q : VK) : Prop := ∀ p H2, H p = none → Ex H H2 → H2 p = some (.tup xs) → Q (.ref p) H2
end
end RP
namespace RP
open PySem PySem.Spec PyProof.Rows L2 Evl
/-! ### lists of one's own that are changed: what stands at each, apart from one another and from what was there -/
structure Cells (H0 H : Hp) (L : List (Addr × HO)) : Prop where
  ex : Ex H0 H
  nd : (L.map (·.1)).Nodup
  at_ : ∀ q, q ∈ L → H q.1 = some q.2
  fr : ∀ q, q ∈ L → H0 q.1 = none
section
variable {H0 H H1 : Hp} {L : List (Addr × HO)}
theorem Cells.start (H : Hp) : Cells H H [] := ⟨Ex.refl H, List.nodup_nil, (fun _ h => nomatch h), (fun _ h => nomatch h)⟩
theorem Cells.mono (c : Cells H0 H L) (e : Ex H H1) : Cells H0 H1 L := ⟨c.ex.trans e, c.nd, fun q h => e _ _ (c.at_ q h), c.fr⟩
theorem Cells.get (c : Cells H0 H L) (k : Nat) {a : Addr} {o : HO} (e : L[k]? = some (a, o) := by rfl) : H a = some o := c.at_ (a, o) (List.mem_of_getElem? e)
theorem Cells.new (c : Cells H0 H L) {p : Addr} {o : HO} (np : H p = none) (e : Ex H H1) (h : H1 p = some o) : Cells H0 H1 ((p, o) :: L) := by
  refine ⟨c.ex.trans e, List.nodup_cons.mpr ⟨fun hm => ?_, c.nd⟩, fun q hq => ?_, fun q hq => ?_⟩
  · obtain ⟨q, hq, eq⟩ := List.mem_map.mp hm
    have h1 := c.at_ q hq
    rw [eq, np] at h1
    cases h1
  · rcases List.mem_cons.mp hq with rfl | hq
    · exact h
    · exact e _ _ (c.at_ q hq)
  · rcases List.mem_cons.mp hq with rfl | hq
    · exact fresh_back c.ex np
    · exact c.fr q hq
theorem Cells.set (c : Cells H0 H L) (k : Nat) {a : Addr} {o : HO} (o' : HO) (e : Ex H H1) (h : L[k]? = some (a, o) := by rfl) : Cells H0 (upd H1 a o') (L.set k (a, o')) := by
  have hm : (L.set k (a, o')).map (·.1) = L.map (·.1) := by
    rw [List.map_set]
    refine List.ext_getElem? fun i => ?_
    by_cases hi : k = i
    · subst hi
      have hk := (List.getElem?_eq_some_iff.mp h).1
      rw [List.getElem?_set_self (by rw [List.length_map]; exact hk), List.getElem?_map, h]
      rfl
    · rw [List.getElem?_set_ne hi]
  refine ⟨Ex.mut (c.ex.trans e) (c.fr _ (List.mem_of_getElem? h)), by rw [hm]; exact c.nd, fun q hq => ?_, fun q hq => ?_⟩
  · obtain ⟨i, hi⟩ := List.getElem?_of_mem hq
    by_cases ei : k = i
    · subst ei
      have hk := (List.getElem?_eq_some_iff.mp h).1
      rw [List.getElem?_set_self hk] at hi
      cases hi
      exact upd_same
    · rw [List.getElem?_set_ne ei] at hi
      have ne : q.1 ≠ a := fun z => by
        have a1 : (L.map (·.1))[i]? = some q.1 := by
          rw [List.getElem?_map, hi]
          rfl
        have a2 : (L.map (·.1))[k]? = some a := by
          rw [List.getElem?_map, h]
          rfl
        rw [z] at a1
        exact ei (nd_ix c.nd a2 a1)
      rw [upd_ne ne]
      exact e _ _ (c.at_ q (List.mem_of_getElem? hi))
  · obtain ⟨i, hi⟩ := List.getElem?_of_mem hq
    by_cases ei : k = i
    · subst ei
      have hk := (List.getElem?_eq_some_iff.mp h).1
      rw [List.getElem?_set_self hk] at hi
      cases hi
      show H0 a = none
      exact c.fr (a, o) (List.mem_of_getElem? h)
    · rw [List.getElem?_set_ne ei] at hi
      exact c.fr q (List.mem_of_getElem? hi)
end
section
variable {K : PySem.W.Frag} {σ : L2.St} {H H' : Hp} {ta tb tc te tx : TE} {t u : TT} {x y z v : V} {r : R2} {D : Ends} {tz : TS}
/-- range(lo, hi) as a list -/
theorem el_rng1 {n : Nat} (ha : Ev ta σ H (.int 1)) (h : Ev tb σ H (.int ((n + 1 : Nat) : Int))) (hn : n ≤ 1000) : EvL (tLstRg (tRg2 ta tb)) σ H (vn n fun i => i + 1) := fun H1 e Q q => ha H1 e _ fun H2 e2 => h H2 (e.trans e2) _ fun H3 e3 => ⟨1, ((n + 1 : Nat) : Int), rfl, rfl, ⟨by unfold RgOk; omega, fun p hp => by
  have e4 : rgV 1 ((n + 1 : Nat) : Int) = vn n fun i => i + 1 := by
    refine vf_of ?_ fun i x h => ?_
    · simp [rgV]
    · unfold rgV at h
      rw [List.getElem?_map] at h
      cases e : (List.range (((n + 1 : Nat) : Int) - 1).toNat)[i]? with
      | none =>
        rw [e] at h
        cases h
      | some k =>
        rw [e] at h
        have hk := (List.getElem?_eq_some_iff.mp e).2
        rw [List.getElem_range] at hk
        subst hk
        cases h
        show V.int (1 + (i : Int)) = V.int (((i + 1 : Nat)) : Int)
        congr 1
        omega
  rw [e4]
  exact q p _ (fresh_back (e2.trans e3) hp) ((e2.trans e3).trans (Ex.new hp)) upd_same⟩⟩
theorem given_congr {n : Nat} {f : Nat → Bool} {v w : Nat → V} (h : ∀ i, i < n → f i = true → v i = w i) : given n f v = given n f w := by
  unfold given
  refine List.map_congr_left fun i hi => ?_
  obtain ⟨h1, h2⟩ := List.mem_filter.mp hi
  exact h i (List.mem_range.mp h1) h2
/-- the numbers of those that are asked for -/
def gints (n : Nat) (f : Nat → Bool) (z : Nat → Int) : List Int := ((List.range n).filter f).map z
theorem given_ints (n : Nat) (f : Nat → Bool) (z : Nat → Int) : given n f (fun i => .int (z i)) = (gints n f z).map V.int := by
  unfold given gints
  rw [List.map_map]
  rfl
theorem gints_mem {n : Nat} {f : Nat → Bool} {z : Nat → Int} {m : Int} : m ∈ gints n f z ↔ ∃ i, i < n ∧ f i = true ∧ z i = m := by
  unfold gints
  rw [List.mem_map]
  constructor
  · rintro ⟨i, hi, e⟩
    obtain ⟨h1, h2⟩ := List.mem_filter.mp hi
    exact ⟨i, List.mem_range.mp h1, h2, e⟩
  · rintro ⟨i, h1, h2, e⟩
    exact ⟨i, List.mem_filter.mpr ⟨List.mem_range.mpr h1, h2⟩, e⟩
theorem q_minG {i n : Nat} {f : Nat → Bool} {z : Nat → Int} (h : EvL te σ H (given n f fun i => .int (z i))) (hne : ∃ i, i < n ∧ f i = true) (k : ∀ m, (∃ i, i < n ∧ f i = true ∧ z i = m) → (∀ i, i < n → f i = true → m ≤ z i) → ∀ H1, Ex H H1 → tz D (σ.set i (some (.int m))) H1) :
    tSeq (tAsg (tCB (rMin K) (tCons te tNil)) (gName i)) tz D σ H := h H (Ex.refl H) _ fun p H1 _ e1 hp => ⟨p, gints n f z, rfl, by rw [← given_ints]; exact sq_of hp, by
    obtain ⟨i, h1, h2⟩ := hne
    exact List.length_pos_of_mem (gints_mem.mpr ⟨i, h1, h2, rfl⟩), fun m hm hl => k m (gints_mem.mp hm) (fun i h1 h2 => hl _ (gints_mem.mpr ⟨i, h1, h2, rfl⟩)) H1 e1⟩
/-- an item of a new list -/
theorem ev_ixN {xs : List V} {i : Int} (ha : EvL ta σ H xs) (hb : ∀ H1, Ex H H1 → Ev tb σ H1 (.int i)) (hi : atI xs i = some v) : Ev (tOp (rIxL K) ta tb) σ H v := fun H1 e Q q => ha H1 e _ fun p H2 _ e2 hp => hb H2 (e.trans e2) H2 (Ex.refl H2) _ fun H3 e3 =>
  ⟨p, xs, i, v, rfl, rfl, sq_of (e3 _ _ hp), hi, q H3 (e2.trans e3)⟩
theorem given_head {n : Nat} {f : Nat → Bool} {v : Nat → V} (h : ∃ i, i < n ∧ f i = true) : ∃ i, i < n ∧ f i = true ∧ atI (given n f v) 0 = some (v i) := by
  unfold given
  cases e : (List.range n).filter f with
  | nil =>
    obtain ⟨i, h1, h2⟩ := h
    have : i ∈ (List.range n).filter f := List.mem_filter.mpr ⟨List.mem_range.mpr h1, h2⟩
    rw [e] at this
    cases this
  | cons i r =>
    have hi : i ∈ (List.range n).filter f := by
      rw [e]
      exact List.mem_cons_self
    obtain ⟨h1, h2⟩ := List.mem_filter.mp hi
    exact ⟨i, List.mem_range.mp h1, h2, atI_nat (j := 0) rfl⟩
/-- comprehensions with a test -/
theorem el_lcG {a : Addr} {n : Nat} {f : Nat → V} {tl : TE} {j : Nat} {vs : List Nat} (b : Nat → Bool) (v : Nat → V) (h : Ev tl σ H (.ref a)) (hx : SqL K H a (vf n f)) (hz : n ≤ 40000) (hw : ∀ x, wipe ((wipe σ vs).set j (some x)) vs = wipe σ vs)
    (ht : ∀ (i : Nat) H1, Ex H H1 → i < n → EvT t ((wipe σ vs).set j (some (f i))) H1 (b i)) (he : ∀ (i : Nat) H1, Ex H H1 → i < n → b i = true → Ev te ((wipe σ vs).set j (some (f i))) H1 (v i)) : EvL (tLc (iList K tl) (gName j) t te vs) σ H (given n b v) := by
  have q := el_lcL (σ := σ) (H := H) (K := K) (te := te) (t := t) (j := j) (vs := vs) b v h hx (by rw [vf_len]; exact hz) hw (fun i x H1 e hi => by
    obtain ⟨h1, rfl⟩ := vf_at hi
    exact ht i H1 e h1) (fun i x H1 e hi hb => by
    obtain ⟨h1, rfl⟩ := vf_at hi
    exact he i H1 e h1 hb)
  rw [vf_len] at q
  exact q
/-- a while by a word that falls; behind a turn the word at some lesser number -/
theorem q_whileM (W : Nat → L2.St → Hp → Prop) (m0 : Nat) (h0 : W m0 σ H) {tu : TS}
    (hs : ∀ m σ' H', W m σ' H' → ∃ b, EvT t σ' H' b ∧ (b = true → ∀ H1, Ex H' H1 → tu { D with nx := fun σ2 H2 => ∃ m', m' < m ∧ W m' σ2 H2, ct := fun σ2 H2 => ∃ m', m' < m ∧ W m' σ2 H2, bk := tz D } σ' H1) ∧ (b = false → ∀ H1, Ex H' H1 → tz D σ' H1)) : tSeq (tWhile t tu) tz D σ H :=
  q_while W m0 h0 fun m σ' H' hw => let ⟨b, h1, h2, h3⟩ := hs m σ' H' hw; ⟨b, h1, fun hb H1 e => ⟨_, fun _ _ q => q, h2 hb H1 e⟩, h3⟩
theorem s_whileM (W : Nat → L2.St → Hp → Prop) (m0 : Nat) (h0 : W m0 σ H) {tu : TS}
    (hs : ∀ m σ' H', W m σ' H' → ∃ b, EvT t σ' H' b ∧ (b = true → ∀ H1, Ex H' H1 → tu { D with nx := fun σ2 H2 => ∃ m', m' < m ∧ W m' σ2 H2, ct := fun σ2 H2 => ∃ m', m' < m ∧ W m' σ2 H2, bk := D.nx } σ' H1) ∧ (b = false → ∀ H1, Ex H' H1 → D.nx σ' H1)) : tWhile t tu D σ H :=
  s_while W m0 h0 fun m σ' H' hw => let ⟨b, h1, h2, h3⟩ := hs m σ' H' hw; ⟨b, h1, fun hb H1 e => ⟨_, fun _ _ q => q, h2 hb H1 e⟩, h3⟩
def vds (ds : List Nat) : List V := ds.map fun (j : Nat) => V.int (j : Int)
theorem q_seto {l : Addr} {n j : Nat} {f : Nat → Option Int} {z : Int} (hl : H l = some (.lst (vf n fun i => ov (f i)))) (h : Ev te σ H (.int z)) (ho : Ev ta σ H (.ref l)) (hi : Ev tb σ H (.int (j : Int))) (hj : j < n) (k : ∀ H1, Ex H H1 → tz D σ (upd H1 l (.lst (vf n fun i => ov (fset f j (some z) i))))) :
    tSeq (tAsg te (gSub ta tb rSetL)) tz D σ H := q_setL hl h ho hi (by rw [vf_len]; exact hj) fun H1 e => by
  rw [vo_set]
  exact k H1 e
theorem s_seto {l : Addr} {n j : Nat} {f : Nat → Option Int} {z : Int} (hl : H l = some (.lst (vf n fun i => ov (f i)))) (h : Ev te σ H (.int z)) (ho : Ev ta σ H (.ref l)) (hi : Ev tb σ H (.int (j : Int))) (hj : j < n) (k : ∀ H1, Ex H H1 → D.nx σ (upd H1 l (.lst (vf n fun i => ov (fset f j (some z) i))))) :
    tAsg te (gSub ta tb rSetL) D σ H := s_setL hl h ho hi (by rw [vf_len]; exact hj) fun H1 e => by
  rw [vo_set]
  exact k H1 e
theorem Cells.perm {H0 H : Hp} {L L' : List (Addr × HO)} (p : L.Perm L') (c : Cells H0 H L) : Cells H0 H L' := ⟨c.ex, (p.map _).nodup_iff.mp c.nd, fun q h => c.at_ q (p.mem_iff.mpr h), fun q h => c.fr q (p.mem_iff.mpr h)⟩
/-- for x in range(1, n + 1) -/
theorem q_for1 {ta : TA} {j n : Nat} {tu : TS} (h : EvA ta σ H [.int 1, .int ((n + 1 : Nat) : Int)]) (hn : n ≤ 1000) (Pv : Nat → L2.St → Hp → Prop) (h0 : ∀ H1, Ex H H1 → Pv 0 σ H1)
    (hs : ∀ (i : Nat) σ' H', i < n → Pv i σ' H' → tu { D with nx := Pv (i + 1), ct := Pv (i + 1), bk := tz D } (σ'.set j (some (.int ((i + 1 : Nat) : Int)))) H') (hd : ∀ σ' H', Pv n σ' H' → tz D σ' H') : tSeq (tFor (iRng2 ta) (gName j) tu) tz D σ H :=
  q_forR2 h (by omega) Pv h0 (fun i σ' H' hi p => by
    have q := hs i σ' H' (by omega) p
    rw [show ((i + 1 : Nat) : Int) = 1 + (i : Int) by omega] at q
    exact q) (fun σ' H' p => hd σ' H' (by rw [show (((n + 1 : Nat) : Int) - 1).toNat = n by omega] at p; exact p))
/-- a new list of which something is known -/
def EvLP (te : TE) (σ : L2.St) (H : Hp) (S : List V → Prop) : Prop := ∀ H1, Ex H H1 → ∀ Q : VK, (∀ p H2 xs, S xs → H1 p = none → Ex H1 H2 → H2 p = some (.lst xs) → Q (.ref p) H2) → te σ H1 Q
theorem EvL.p {xs : List V} {S : List V → Prop} (h : EvL te σ H xs) (hS : S xs) : EvLP te σ H S := fun H1 e Q q => h H1 e Q fun p H2 a b c => q p H2 xs hS a b c
theorem ev_sumP {S : List V → Prop} {z : Int} (ha : EvLP ta σ H S) (hz : ∀ xs, S xs → ∃ n f, xs = vl n f ∧ sumN n f = z) : Ev (tCB (rSum K) (tCons ta tNil)) σ H (.int z) := fun H1 e Q q => ha H1 e _ fun p H2 xs hx _ e2 hp => by
  obtain ⟨n, f, rfl, rfl⟩ := hz xs hx
  exact ⟨p, il n f, rfl, by rw [← vl_il]; exact sq_of hp, by rw [il_sum]; exact q H2 e2⟩
/-- a comprehension over zip(xs, a new list) -/
theorem el_lcZP {a : Addr} {n : Nat} {f : Nat → V} {S : List V → Prop} {i0 j0 : Nat} {vs : List Nat} (v : (Nat → V) → Nat → V) (h1 : Ev tb σ H (.ref a)) (h2 : EvLP tc σ H S) (hS : ∀ xs, S xs → ∃ g, xs = vf n g) (hx : SqL K H a (vf n f)) (hz : n ≤ 40000)
    (hw : ∀ x y, wipe (((wipe σ vs).set i0 (some x)).set j0 (some y)) vs = wipe σ vs)
    (he : ∀ (g : Nat → V) (i : Nat) H1, S (vf n g) → Ex H H1 → i < n → Ev te (((wipe σ vs).set i0 (some (f i))).set j0 (some (g i))) H1 (v g i)) : EvLP (tLc (iZip K (tCons tb (tCons tc tNil))) (gTup K 2 (gCons (gName i0) (gCons (gName j0) gNil))) tYes te vs) σ H (fun ys => ∃ g, S (vf n g) ∧ ys = vf n (v g)) := fun H0 e Q q =>
  h1 H0 e _ fun H1 e1 => h2 H1 (e.trans e1) _ fun b H2 ys hys nb e2 hb => by
    obtain ⟨g, rfl⟩ := hS ys hys
    have e12 := (e.trans e1).trans e2
    refine ⟨a, b, _, _, rfl, ex_l e12 hx, sq_of hb, fun Dl hD => lc_zip (by rw [vf_len, vf_len]) (fun i H' => H2 Dl = none ∧ Ex H2 H' ∧ H' Dl = some (.lst (vf i (v g)))) ⟨hD, Ex.new hD, upd_same⟩ (fun i H' p => ⟨ex_l (e12.trans p.2.1) hx, sq_of (p.2.1 _ _ hb)⟩)
      (fun i x y T H' hi hj p nT => ?_) (fun H' p => ?_)⟩
    · obtain ⟨h1, rfl⟩ := vf_at hi
      obtain ⟨_, rfl⟩ := vf_at hj
      obtain ⟨p1, p2, p3⟩ := p
      have eT : Ex H' (upd H' T (.tup [f i, g i])) := Ex.new nT
      refine ⟨T, [f i, g i], rfl, st_of upd_same, rfl, f i, [g i], rfl, g i, [], rfl, rfl, hw _ _, ?_⟩
      show te _ _ _
      refine he g i H2 hys e12 h1 _ (p2.trans eT) _ fun H4 e4 => ⟨vf i (v g), e4 _ _ (eT _ _ p3), vf_szl (by omega), p1, Ex.mut ((p2.trans eT).trans e4) p1, ?_⟩
      rw [vf_succ]
      exact upd_same
    · rw [vf_len] at p
      exact q Dl H' _ ⟨g, hys, rfl⟩ (fresh_back (e1.trans e2) p.1) ((e1.trans e2).trans p.2.1) p.2.2
theorem drop_call {sp : Sp} {vs : List V} {E : XK} {ta : TA} (h : EvA ta σ H vs) (k : ∀ H1, Ex H H1 → sp vs H1 (fun _ H2 => D.nx σ H2) E) : tDrop (tCall sp [] E ta) D σ H := h H (Ex.refl H) _ fun H1 e1 => by
  rw [List.append_nil]
  exact k H1 e1
theorem q_asgP {i : Nat} {S : List V → Prop} (h : EvLP te σ H S) (k : ∀ p H1 xs, S xs → H p = none → Ex H H1 → H1 p = some (.lst xs) → tz D (σ.set i (some (.ref p))) H1) : tSeq (tAsg te (gName i)) tz D σ H := h H (Ex.refl H) _ k
theorem s_retSumP {S : List V → Prop} (ha : EvLP ta σ H S) (hz : ∀ xs, S xs → ∃ n f, xs = vl n f ∧ ∀ H1, Ex H H1 → D.rt (.int (sumN n f)) H1) : tRet (tCB (rSum K) (tCons ta tNil)) D σ H := ha H (Ex.refl H) _ fun p H2 xs hx _ e2 hp => by
  obtain ⟨n, f, rfl, q⟩ := hz xs hx
  exact ⟨p, il n f, rfl, by rw [← vl_il]; exact sq_of hp, by rw [il_sum]; exact q H2 e2⟩
end
end RP
namespace RP
open PySem PySem.Spec PyProof.Rows L2 Evl
/-! ### great numbers -/
def Bd (N : Nat) (z : Int) : Prop := z.natAbs < 2 ^ N
theorem bd_mono {N M : Nat} {z : Int} (h : N ≤ M) (b : Bd N z) : Bd M z := Nat.lt_of_lt_of_le b (Nat.pow_le_pow_right (by decide) h)
theorem bd_add {N : Nat} {a b : Int} (ha : Bd N a) (hb : Bd N b) : Bd (N + 1) (a + b) := by
  unfold Bd at *
  rw [Nat.pow_succ]
  have := Int.natAbs_add_le a b
  omega
theorem bd_mul {N M : Nat} {a b : Int} (ha : Bd N a) (hb : Bd M b) : Bd (N + M) (a * b) := by
  unfold Bd at *
  rw [Int.natAbs_mul, Nat.pow_add]
  exact Nat.mul_lt_mul'' ha hb
theorem bd_lt {z : Int} (h : -(2 ^ 63) ≤ z ∧ z ≤ 2 ^ 63) : Bd 64 z := by
  unfold Bd
  omega
theorem bd_div {N : Nat} {z d : Int} (h : Bd N z) : Bd N (z / d) := Nat.lt_of_le_of_lt (Int.natAbs_ediv_le_natAbs z d) h
theorem bd_of_bits {N : Nat} {z : Int} (h : Builtin.Int.intBits z ≤ N) : Bd N z := by
  unfold Builtin.Int.intBits at h
  unfold Bd
  split at h
  · next e =>
    have : z = 0 := by simpa using e
    subst this
    exact Nat.two_pow_pos N
  · exact Nat.lt_of_lt_of_le Nat.lt_log2_self (Nat.pow_le_pow_right (by decide) h)
theorem bd_bits {N : Nat} {z : Int} (h : Bd N z) : Builtin.Int.intBits z ≤ N := by
  unfold Builtin.Int.intBits
  unfold Bd at h
  split
  · exact Nat.zero_le _
  · next e =>
    have hz : z.natAbs ≠ 0 := fun q => e (by simpa using q)
    have := (Nat.log2_lt hz).mpr h
    omega
theorem mulok_bd {N M : Nat} {a b : Int} (ha : Bd N a) (hb : Bd M b) (h : N + M ≤ 100000000) : IntMulOk a b := by
  have h1 := bd_bits ha
  have h2 := bd_bits hb
  have e : bitsLine = 134217728 := by decide
  unfold IntMulOk
  intro z
  rw [Bool.and_eq_true] at z
  have z2 := z.2
  unfold Builtin.Int.intTooBig at z2
  have z3 := of_decide_eq_true z2
  rw [e] at z3
  omega
theorem mulok_r {i j : Int} (h : -(2 ^ 63) ≤ j ∧ j ≤ 2 ^ 63) : IntMulOk i j := .of_right (intBits_le_64 (by omega) (by omega))
section
variable {K : PySem.W.Frag} {σ : L2.St} {H H' : Hp} {ta tb tc te tx : TE} {t u : TT} {x y z v : V} {r : R2} {D : Ends} {tz tu : TS}
theorem ev_pow {i j : Int} (ha : Ev ta σ H (.int i)) (hb : Ev tb σ H (.int j)) (h : CPow i j) : Ev (tOp (rI CPow fun i j => .int (i ^ j.toNat)) ta tb) σ H (.int (i ^ j.toNat)) := ev_op ha hb (rv_I h)
theorem el_if {b : Bool} {xs : List V} (h : EvT t σ H b) (h1 : b = true → EvL ta σ H xs) (h2 : b = false → EvL tb σ H xs) : EvL (tIf t ta tb) σ H xs := fun H1 e Q q => h H1 e _ fun H2 e2 => by
  cases b with
  | true =>
    show ta σ H2 Q
    exact h1 rfl H2 (e.trans e2) Q fun p H3 a c d => q p H3 (fresh_back e2 a) (e2.trans c) d
  | false =>
    show tb σ H2 Q
    exact h2 rfl H2 (e.trans e2) Q fun p H3 a c d => q p H3 (fresh_back e2 a) (e2.trans c) d
theorem ev_ixU {xs : List V} {i : Int} (ha : EvU ta σ H xs) (hb : Ev tb σ H (.int i)) (hi : atI xs i = some v) : Ev (tOp (rIxT K) ta tb) σ H v := fun H1 e Q q => ha H1 e _ fun p H2 _ e2 hp => hb H2 (e.trans e2) _ fun H3 e3 =>
  ⟨p, xs, i, v, rfl, rfl, st_of (e3 _ _ hp), hi, q H3 (e2.trans e3)⟩
theorem cut63 {xs : List V} {n : Nat} (h : xs.length ≤ n) : cutV xs none (some (n : Int)) = xs := by
  unfold cutV
  rw [HT.sIx_none, HT.sIx_nat, List.drop_zero, Nat.sub_zero, Nat.min_eq_right h, List.take_length]
/-- the script's own cells -/
structure Sc (K : PySem.W.Frag) (H : Hp) (s k : Nat) (f : Nat → Int) : Prop where
  l : SqL K H s (vl k f)
  k63 : k ≤ 63
  bd : ∀ i, i < k → Bd 1048576 (f i)
theorem Sc.mono {s k : Nat} {f : Nat → Int} (e : Ex H H') (h : Sc K H s k f) : Sc K H' s k f := ⟨ex_l e h.l, h.k63, h.bd⟩
theorem el_cut {s k : Nat} {f : Nat → Int} (h : Sc K H s k f) (hs : Ev ta σ H (.ref s)) : EvL (tSl (rSlL K) ta tNoPart (tPart (tC (.int 63)))) σ H (vl k f) := by
  have q := el_sl hs eo_none (eo_some (ev_c (v := .int 63))) h.l
  rw [show (63 : Int) = ((63 : Nat) : Int) from rfl, cut63 (by rw [vf_len]; exact h.k63)] at q
  exact q
/-- cells = script[:63] if script != [] else [3] -/
theorem el_cells {s k : Nat} {f : Nat → Int} (h : Sc K H s k f) (hs : Ev ta σ H (.ref s)) (hs2 : Ev tb σ H (.ref s)) : ∃ k' f', 0 < k' ∧ k' ≤ 63 ∧ (∀ i, i < k' → Bd 1048576 (f' i)) ∧
    EvL (tIf (tTest (tOp (rNeD K) ta (tLst tNil))) (tSl (rSlL K) tb tNoPart (tPart (tC (.int 63)))) (tLst (tCons (tC (.int 3)) tNil))) σ H (vl k' f') := by
  have ht : EvT (tTest (tOp (rNeD K) ta (tLst tNil))) σ H (!decide (il k f = [])) := et_is (et_test (evd_ne (Ev.d hs (dp_ints h.l)) (evd_lst (ns := []) (el_lst ea_nil (Nat.zero_le _))) (dI_shaped _) (dI_shaped _))) (by rw [eqv_ints])
  by_cases hk : k = 0
  · subst hk
    exact ⟨1, fun _ => 3, Nat.zero_lt_one, by decide, fun i _ => bd_mono (by decide) (bd_lt (z := 3) (by decide)), el_if (b := false) ht (fun z => nomatch z) fun _ => el_lst (ea_cons ev_c ea_nil) (by show 1 ≤ 100000; decide)⟩
  · refine ⟨k, f, by omega, h.k63, h.bd, el_if ht (fun _ => el_cut h hs2) fun z => ?_⟩
    have e : il k f = [] := by simpa using z
    have := congrArg List.length e
    rw [il_len] at this
    exact absurd this hk
/-! ### a list of rows that grows by itself -/
theorem Grow.add {H1 : Hp} {D : Addr} {rows : Nat → List V} {i : Nat} (g : Grow H1 D rows i H) (hi : i < 50000) {p : Addr} {H4 : Hp} {row : List V} (np : H p = none) (e4 : Ex H H4) (h4 : H4 p = some (.lst row)) :
    ∃ acc, H D = some (.lst acc) ∧ acc.length < 100000 ∧ ∀ H5, Ex H4 H5 → Grow H1 D (fset rows i row) (i + 1) (upd H5 D (.lst (acc ++ [.ref p]))) := by
  obtain ⟨a, h1, h2, h3⟩ := g.at_
  refine ⟨vr i a, h1, by rw [vf_len]; omega, fun H5 e5 => ⟨g.nd, Ex.mut ((g.ex.trans e4).trans e5) g.nd, fset a i p, ?_, fun k hk => ?_, fun k m hk hm e => ?_⟩⟩
  · rw [upd_same, vr_succ, fset_same]
    congr 2
    exact congrArg (· ++ [V.ref p]) (vf_congr fun k hk => by rw [fset_ne _ _ (by omega)])
  · have nDp : p ≠ D := fun q => by
      rw [q, h1] at np
      cases np
    by_cases e : k = i
    · subst e
      rw [fset_same, fset_same]
      exact ⟨fresh_back g.ex np, by rw [upd_ne nDp]; exact e5 _ _ h4, nDp⟩
    · rw [fset_ne _ _ e, fset_ne _ _ e]
      obtain ⟨q1, q2, q3⟩ := h2 k (by omega)
      exact ⟨q1, by rw [upd_ne q3]; exact e5 _ _ (e4 _ _ q2), q3⟩
  · have ne : ∀ k, k < i → a k ≠ p := fun k hk q => by
      have := (h2 k hk).2.1
      rw [q, np] at this
      cases this
    by_cases ek : k = i <;> by_cases em : m = i
    · omega
    · rw [ek, fset_same, fset_ne _ _ em] at e
      exact absurd e.symm (ne m (by omega))
    · rw [em, fset_same, fset_ne _ _ ek] at e
      exact absurd e (ne k (by omega))
    · rw [fset_ne _ _ ek, fset_ne _ _ em] at e
      exact h3 k m (by omega) (by omega) e
theorem Grow.start {D : Addr} {rows : Nat → List V} {H1 H2 : Hp} (nD : H1 D = none) (e : Ex H1 H2) (h : H2 D = some (.lst [])) : Grow H1 D rows 0 H2 := ⟨nD, e, fun _ => 0, h, fun k hk => absurd hk (Nat.not_lt_zero k), fun k m hk => absurd hk (Nat.not_lt_zero k)⟩
theorem Grow.mono {D : Addr} {rows : Nat → List V} {i : Nat} {H1 : Hp} (g : Grow H1 D rows i H) (e : Ex H H') : Grow H1 D rows i H' :=
  let ⟨a, h1, h2, h3⟩ := g.at_
  ⟨g.nd, g.ex.trans e, a, e _ _ h1, fun k hk => ⟨(h2 k hk).1, e _ _ (h2 k hk).2.1, (h2 k hk).2.2⟩, h3⟩
/-- a new table, whatever it holds -/
def RetTab (n : Nat) (H : Hp) (Q : VK) : Prop := ∀ (M : Nat → Nat → Int) (p : Addr) (a : Nat → Addr) (H2 : Hp), H p = none → Ex H H2 → H2 p = some (.lst (vr n a)) → (∀ i, i < n → H (a i) = none ∧ H2 (a i) = some (.lst (vl n (M i)))) → Q (.ref p) H2
theorem tab_of {p : Addr} {n : Nat} {a : Nat → Addr} {M : Nat → Nat → Int} (h : H p = some (.lst (vr n a))) (hr : ∀ i, i < n → H (a i) = some (.lst (vl n (M i)))) : Tab K H p n a M := ⟨sq_of h, fun i hi => sq_of (hr i hi)⟩
/-! ### xs.insert(i, y) -/
def rIns : V → List V → Hp → VK → Prop := fun x vs H Q => ∃ (l : Addr) (xs : List V) (i : Int) (y : V), x = .ref l ∧ vs = [.int i, y] ∧ H l = some (.lst xs) ∧ xs.length < sizeLine ∧ 0 ≤ i ∧ i < 2 ^ 63 ∧ Q .non (upd H l (.lst (xs.take i.toNat ++ [y] ++ xs.drop i.toNat)))
theorem mt_ins {X : Cx} : MtR X "list.insert" rIns := mt_insert
def ins (f : Nat → Nat) (j y : Nat) : Nat → Nat := fun k => if k < j then f k else if k = j then y else f (k - 1)
theorem vn_ins {n j y : Nat} {f : Nat → Nat} (hj : j ≤ n) : (vn n f).take j ++ [.int (y : Int)] ++ (vn n f).drop j = vn (n + 1) (ins f j y) := by
  refine List.ext_getElem? fun i => ?_
  have hl : (vn n f).length = n := vf_len _ _
  have hlt : ((vn n f).take j).length = j := by rw [List.length_take, hl]; omega
  have hlt1 : ((vn n f).take j ++ [V.int (y : Int)]).length = j + 1 := by rw [List.length_append, hlt]; rfl
  by_cases h1 : i < j
  · rw [List.getElem?_append_left (by omega), List.getElem?_append_left (by omega), List.getElem?_take, if_pos h1, vf_get (by omega), vf_get (by omega)]
    unfold ins
    rw [if_pos h1]
  · by_cases h2 : i = j
    · subst h2
      rw [List.getElem?_append_left (by omega), List.getElem?_append_right (by omega), hlt, Nat.sub_self, vf_get (by omega)]
      unfold ins
      rw [if_neg (by omega), if_pos rfl]
      rfl
    · rw [List.getElem?_append_right (by omega), hlt1, List.getElem?_drop]
      by_cases h3 : i < n + 1
      · rw [vf_get (by omega), vf_get h3]
        unfold ins
        rw [if_neg h1, if_neg h2, show j + (i - (j + 1)) = i - 1 by omega]
      · rw [List.getElem?_eq_none (by omega), List.getElem?_eq_none (by rw [vf_len]; omega)]
theorem pm_ins {n j : Nat} {f : Nat → Nat} (h : Pm n f) (hj : j ≤ n) : Pm (n + 1) (ins f j n) := by
  have lt : ∀ i, i < n + 1 → ins f j n i < n + 1 := fun i hi => by
    unfold ins
    split
    · have := h.lt i (by omega)
      omega
    · split
      · omega
      · have := h.lt (i - 1) (by omega)
        omega
  refine ⟨lt, fun a b ha hb e => ?_⟩
  unfold ins at e
  by_cases a1 : a < j <;> by_cases b1 : b < j
  · rw [if_pos a1, if_pos b1] at e
    exact h.inj a b (by omega) (by omega) e
  · rw [if_pos a1, if_neg b1] at e
    by_cases b2 : b = j
    · rw [if_pos b2] at e
      have := h.lt a (by omega)
      omega
    · rw [if_neg b2] at e
      have := h.inj a (b - 1) (by omega) (by omega) e
      omega
  · rw [if_neg a1, if_pos b1] at e
    by_cases a2 : a = j
    · rw [if_pos a2] at e
      have := h.lt b (by omega)
      omega
    · rw [if_neg a2] at e
      have := h.inj (a - 1) b (by omega) (by omega) e
      omega
  · rw [if_neg a1, if_neg b1] at e
    by_cases a2 : a = j <;> by_cases b2 : b = j
    · omega
    · rw [if_pos a2, if_neg b2] at e
      have := h.lt (b - 1) (by omega)
      omega
    · rw [if_neg a2, if_pos b2] at e
      have := h.lt (a - 1) (by omega)
      omega
    · rw [if_neg a2, if_neg b2] at e
      have := h.inj (a - 1) (b - 1) (by omega) (by omega) e
      omega
theorem s_ins {l : Addr} {n j y : Nat} {f : Nat → Nat} (hl : H l = some (.lst (vn n f))) (ha : Ev ta σ H (.ref l)) (hi : Ev tb σ H (.int (j : Int))) (hy : Ev tc σ H (.int (y : Int))) (hj : j ≤ n) (hn : n ≤ 1000) (k : ∀ H1, Ex H H1 → D.nx σ (upd H1 l (.lst (vn (n + 1) (ins f j y))))) :
    tDrop (tBM K "list" rIns ta (tCons tb (tCons tc tNil))) D σ H := ha H (Ex.refl H) _ fun H1 e1 => ⟨Or.inl ⟨rfl, _, sq_of (e1 _ _ hl)⟩, hi H1 e1 _ fun H2 e2 => hy H2 (e1.trans e2) _ fun H3 e3 =>
  ⟨l, vn n f, (j : Int), .int (y : Int), rfl, rfl, e3 _ _ (e2 _ _ (e1 _ _ hl)), vf_szl (by omega), by omega, by omega, by
    rw [Int.toNat_natCast, vn_ins hj]
    exact k H3 ((e1.trans e2).trans e3)⟩⟩
/-- a comprehension over a list with its places -/
theorem el_lcE {ta : TA} {a : Addr} {n : Nat} {f : Nat → V} {i0 j0 : Nat} {vs : List Nat} (v : Nat → V) (h : EvA ta σ H [.ref a]) (hx : SqL K H a (vf n f)) (hz : n ≤ 40000)
    (hw : ∀ x y, wipe (((wipe σ vs).set i0 (some x)).set j0 (some y)) vs = wipe σ vs)
    (he : ∀ (i : Nat) H1, Ex H H1 → i < n → Ev te (((wipe σ vs).set i0 (some (.int (i : Int)))).set j0 (some (f i))) H1 (v i)) : EvL (tLc (iEnum K ta) (gTup K 2 (gCons (gName i0) (gCons (gName j0) gNil))) tYes te vs) σ H (vf n v) := fun H0 e Q q =>
  h H0 e _ fun H1 e1 => ⟨a, _, rfl, ex_l (e.trans e1) hx, fun Dl hD => by
    refine ⟨fun i m H' => m = n - i ∧ i ≤ n ∧ H1 Dl = none ∧ Ex H1 H' ∧ H' Dl = some (.lst (vf i v)), ⟨n, by simp, Nat.zero_le _, hD, Ex.new hD, upd_same⟩, fun i m H' hw' => ?_⟩
    obtain ⟨rfl, hi, p1, p2, p3⟩ := hw'
    have q1 := ex_l ((e.trans e1).trans p2) hx
    by_cases hlt : i < n
    · refine .inr ⟨⟨_, _, q1, vf_get hlt⟩, fun H2 => H1 Dl = none ∧ Ex H1 H2 ∧ H2 Dl = some (.lst (vf (i + 1) v)), fun H2 p' => ⟨n - (i + 1), by omega, rfl, hlt, p'⟩, fun x H2 y => ?_⟩
      obtain ⟨T, z, rfl, nT, rfl, f1⟩ := y
      obtain ⟨_, rfl⟩ := vf_at (f1 _ q1)
      have eT : Ex H' (upd H' T (.tup [.int (i : Nat), f i])) := Ex.new nT
      refine ⟨T, _, rfl, st_of upd_same, rfl, _, _, rfl, _, _, rfl, rfl, hw _ _, ?_⟩
      show te _ _ _
      refine he i H1 (e.trans e1) hlt _ (p2.trans eT) _ fun H4 e4 => ⟨vf i v, e4 _ _ (eT _ _ p3), vf_szl (by omega), p1, Ex.mut ((p2.trans eT).trans e4) p1, ?_⟩
      rw [vf_succ]
      exact upd_same
    · have e2 : i = n := by omega
      subst e2
      exact .inl ⟨⟨_, q1, by rw [vf_len]; exact Nat.le_refl _⟩, q Dl H' (fresh_back e1 p1) (e1.trans p2) p3⟩⟩
end
end RP
namespace RP
open PySem PySem.Spec PyProof.Rows L2 Evl
section
variable {K : PySem.W.Frag} {σ : L2.St} {H H' : Hp} {ta tb tc te tx tl : TE} {t u : TT} {x y z v : V} {r : R2} {D : Ends} {tz tu : TS}
/-! ### list + list, extend, pop -/
theorem el_cat {xs ys : List V} (ha : EvL ta σ H xs) (hb : EvL tb σ H ys) (hl : xs.length + ys.length ≤ 100000) : EvL (tOp rCat ta tb) σ H (xs ++ ys) := fun H1 e Q q => ha H1 e _ fun p H2 np e2 hp => hb H2 (e.trans e2) _ fun p2 H3 np2 e3 hp2 =>
  ⟨p, p2, xs, ys, rfl, rfl, e3 _ _ hp, hp2, by unfold sizeLine; omega, fun r hr => q r _ (fresh_back (e2.trans e3) hr) ((e2.trans e3).trans (Ex.new hr)) upd_same⟩
theorem s_extM {l : Addr} {xs : List V} {n : Nat} {rows : Nat → List V} (hl : H l = some (.lst xs)) (ha : Ev ta σ H (.ref l)) (h : EvM te σ H n rows) (hz : xs.length + n ≤ 100000) (k : ∀ a H1, Ex H H1 → (∀ i, i < n → H (a i) = none ∧ H1 (a i) = some (.lst (rows i))) → D.nx σ (upd H1 l (.lst (xs ++ vr n a)))) :
    tDrop (tBM K "list" rExtend ta (tCons te tNil)) D σ H := ha H (Ex.refl H) _ fun H1 e1 => ⟨Or.inl ⟨rfl, xs, sq_of (e1 l _ hl)⟩, h H1 e1 _ fun p a H2 np e2 hp hr _ _ =>
  ⟨l, p, xs, vr n a, rfl, rfl, e2 _ _ (e1 _ _ hl), hp, by rw [vf_len]; unfold sizeLine; omega, k a H2 (e1.trans e2) fun i hi => ⟨fresh_back e1 (hr i hi).1, (hr i hi).2⟩⟩⟩
theorem s_pop {l : Addr} {xs : List V} {y : V} (hl : H l = some (.lst (xs ++ [y]))) (ha : Ev ta σ H (.ref l)) (k : ∀ H1, Ex H H1 → D.nx σ (upd H1 l (.lst xs))) : tDrop (tBM0 K "list" rPop ta) D σ H := ha H (Ex.refl H) _ fun H1 e1 =>
  ⟨Or.inl ⟨rfl, _, sq_of (e1 l _ hl)⟩, l, xs ++ [y], y, rfl, rfl, e1 _ _ hl, by rw [List.length_append, List.length_singleton, Nat.add_sub_cancel, List.getElem?_append_right (Nat.le_refl _), Nat.sub_self]; rfl, by
    rw [List.dropLast_concat]
    exact k H1 e1⟩
theorem q_pop {l : Addr} {xs : List V} {y : V} (hl : H l = some (.lst (xs ++ [y]))) (ha : Ev ta σ H (.ref l)) (k : ∀ H1, Ex H H1 → tz D σ (upd H1 l (.lst xs))) : tSeq (tDrop (tBM0 K "list" rPop ta)) tz D σ H := s_pop (D := { D with nx := tz D }) hl ha k
theorem el_revL {p : Addr} {xs : List V} (ha : Ev ta σ H (.ref p)) (h : SqL K H p xs) : EvL (tRevL K ta) σ H xs.reverse := fun H1 e Q q => ha H1 e _ fun H2 e2 => ⟨p, xs, rfl, ex_l (e.trans e2) h, fun r hr => q r _ (fresh_back e2 hr) (e2.trans (Ex.new hr)) upd_same⟩
theorem vf_rev {n : Nat} {f : Nat → V} : (vf n f).reverse = vf n fun i => f (n - 1 - i) := by
  refine List.ext_getElem? fun i => ?_
  by_cases h : i < n
  · rw [List.getElem?_reverse (by rw [vf_len]; exact h), vf_len, vf_get (by omega), vf_get h]
  · rw [List.getElem?_eq_none (by rw [List.length_reverse, vf_len]; omega), List.getElem?_eq_none (by rw [vf_len]; omega)]
/-! ### [[..]], [[..], [..]] -/
theorem em_l1 {rows : Nat → List V} (h : EvL ta σ H (rows 0)) : EvM (tLst (tCons ta tNil)) σ H 1 rows := fun H1 e Q q => h H1 e _ fun p H2 np e2 hp => ⟨by show 1 ≤ sizeLine; unfold sizeLine; omega, fun D hD =>
  q D (fun _ => p) _ (fresh_back e2 hD) (e2.trans (Ex.new hD)) upd_same (fun i hi => by
    obtain rfl : i = 0 := by omega
    exact ⟨np, (Ex.new hD) _ _ hp⟩) (fun i j hi hj _ => by omega) fun i hi e => by
    rw [← e, hp] at hD
    cases hD⟩
theorem em_l2 {rows : Nat → List V} (h : EvL ta σ H (rows 0)) (h2 : EvL tb σ H (rows 1)) : EvM (tLst (tCons ta (tCons tb tNil))) σ H 2 rows := fun H1 e Q q => h H1 e _ fun p H2 np e2 hp => h2 H2 (e.trans e2) _ fun p2 H3 np2 e3 hp2 => ⟨by show 2 ≤ sizeLine; unfold sizeLine; omega, fun D hD => by
  have n1 : p ≠ p2 := fun z => by
    rw [← z, hp] at np2
    cases np2
  refine q D (fun i => if i = 0 then p else p2) _ (fresh_back (e2.trans e3) hD) ((e2.trans e3).trans (Ex.new hD)) upd_same (fun i hi => ?_) (fun i j hi hj e => ?_) fun i hi e => ?_
  · by_cases h0 : i = 0
    · subst h0
      exact ⟨np, (Ex.new hD) _ _ (e3 _ _ hp)⟩
    · obtain rfl : i = 1 := by omega
      exact ⟨fresh_back e2 np2, (Ex.new hD) _ _ hp2⟩
  · have e' : (if i = 0 then p else p2) = if j = 0 then p else p2 := e
    by_cases h0 : i = 0 <;> by_cases h1 : j = 0
    · omega
    · rw [if_pos h0, if_neg h1] at e'
      exact absurd e' n1
    · rw [if_neg h0, if_pos h1] at e'
      exact absurd e'.symm n1
    · omega
  · have e' : (if i = 0 then p else p2) = D := e
    by_cases h0 : i = 0
    · rw [if_pos h0] at e'
      rw [← e', e3 _ _ hp] at hD
      cases hD
    · rw [if_neg h0] at e'
      rw [← e', hp2] at hD
      cases hD⟩
/-- a new table, as a word -/
theorem EvM.tab {p : Addr} {n : Nat} {a : Nat → Addr} {M : Nat → Nat → Int} (h : H p = some (.lst (vr n a))) (hr : ∀ i, i < n → H' (a i) = none ∧ H (a i) = some (.lst (vl n (M i)))) : Tab K H p n a M := ⟨sq_of h, fun i hi => sq_of (hr i hi).2⟩
/-! ### a list of pairs, written out -/
inductive Prs (H : Hp) : List V → List (V × V) → Prop
  | nil : Prs H [] []
  | cons {q : Addr} {us : List V} {x y : V} {ps : List (V × V)} (h : H q = some (.tup [x, y])) (r : Prs H us ps) : Prs H (.ref q :: us) ((x, y) :: ps)
theorem Prs.mono (e : Ex H H') {us : List V} {ps : List (V × V)} (h : Prs H us ps) : Prs H' us ps := by
  induction h with
  | nil => exact .nil
  | cons h _ ih => exact .cons (e _ _ h) ih
theorem Prs.len {us : List V} {ps : List (V × V)} (h : Prs H us ps) : us.length = ps.length := by
  induction h with
  | nil => rfl
  | cons _ _ ih => exact congrArg (· + 1) ih
theorem Prs.get {us : List V} {ps : List (V × V)} (h : Prs H us ps) : ∀ {i : Nat} {u : V}, us[i]? = some u → ∃ q x y, u = .ref q ∧ ps[i]? = some (x, y) ∧ H q = some (.tup [x, y]) := by
  induction h with
  | nil => exact fun e => nomatch e
  | cons h r ih =>
    intro i u e
    cases i with
    | zero =>
      cases e
      exact ⟨_, _, _, rfl, rfl, h⟩
    | succ i => exact ih e
def EvPA (ta : TA) (σ : L2.St) (H : Hp) (ps : List (V × V)) : Prop := ∀ H1, Ex H H1 → ∀ Q : List V → Hp → Prop, (∀ us H2, Ex H1 H2 → Prs H2 us ps → Q us H2) → ta σ H1 Q
theorem epa_nil : EvPA tNil σ H [] := fun H1 _ _ q => q [] H1 (Ex.refl H1) .nil
theorem epa_cons {tr : TA} {ps : List (V × V)} (h : EvU te σ H [x, y]) (hr : EvPA tr σ H ps) : EvPA (tCons te tr) σ H ((x, y) :: ps) := fun H1 e _ q => h H1 e _ fun p H2 _ e2 hp => hr H2 (e.trans e2) _ fun us H3 e3 hu => q _ H3 (e2.trans e3) (.cons (e3 _ _ hp) hu)
/-- for x, y in [(..), ..] -/
theorem s_forP {tr : TA} {ps : List (V × V)} {i0 j0 : Nat} (h : EvPA tr σ H ps) (hn : ps.length ≤ 1000) (Pv : Hp → Nat → L2.St → Hp → Prop) (h0 : ∀ H1 H2, Ex H H1 → Ex H1 H2 → Pv H1 0 σ H2) (hx : ∀ H1 i σ' H', Ex H H1 → Pv H1 i σ' H' → Ex H1 H')
    (hs : ∀ H1 i x y σ' H', Ex H H1 → ps[i]? = some (x, y) → Pv H1 i σ' H' → tu { D with nx := Pv H1 (i + 1), ct := Pv H1 (i + 1), bk := D.nx } ((σ'.set i0 (some x)).set j0 (some y)) H') (hd : ∀ H1 σ' H', Ex H H1 → Pv H1 ps.length σ' H' → D.nx σ' H') :
    tFor (iList K (tLst tr)) (gTup K 2 (gCons (gName i0) (gCons (gName j0) gNil))) tu D σ H := h H (Ex.refl H) _ fun us H1 e hu => ⟨by rw [hu.len]; unfold sizeLine; omega, fun p hp => by
  have e1 : Ex H1 (upd H1 p (.lst us)) := Ex.new hp
  have e2 := e.trans e1
  have hu2 := hu.mono e1
  refine (s_forL (H := upd H1 p (.lst us)) (tl := tC (.ref p)) (xs := us) ev_c (sq_of upd_same) (Pv _) (fun H3 e3 => h0 _ H3 e2 e3) (fun i σ' H' hi p' => ex_l (hx _ _ _ _ e2 p') (sq_of upd_same)) (fun i x σ' H' hi p' => ?_) fun σ' H' p' => hd _ σ' H' e2 (by rw [← hu.len]; exact p') : tFor (iList K (tC (.ref p))) _ tu D σ _)
  obtain ⟨q, x, y, rfl, hi', hq⟩ := hu2.get hi
  exact ⟨q, _, rfl, st_of (hx _ _ _ _ e2 p' _ _ hq), rfl, _, _, rfl, _, _, rfl, rfl, hs _ i x y σ' H' e2 hi' p'⟩⟩
theorem q_forP {tr : TA} {ps : List (V × V)} {i0 j0 : Nat} (h : EvPA tr σ H ps) (hn : ps.length ≤ 1000) (Pv : Hp → Nat → L2.St → Hp → Prop) (h0 : ∀ H1 H2, Ex H H1 → Ex H1 H2 → Pv H1 0 σ H2) (hx : ∀ H1 i σ' H', Ex H H1 → Pv H1 i σ' H' → Ex H1 H')
    (hs : ∀ H1 i x y σ' H', Ex H H1 → ps[i]? = some (x, y) → Pv H1 i σ' H' → tu { D with nx := Pv H1 (i + 1), ct := Pv H1 (i + 1), bk := tz D } ((σ'.set i0 (some x)).set j0 (some y)) H') (hd : ∀ H1 σ' H', Ex H H1 → Pv H1 ps.length σ' H' → tz D σ' H') :
    tSeq (tFor (iList K (tLst tr)) (gTup K 2 (gCons (gName i0) (gCons (gName j0) gNil))) tu) tz D σ H := s_forP (D := { D with nx := tz D }) h hn Pv h0 hx hs hd
/-! ### plain -/
theorem Can.most {n : Nat} {M : Nat → Nat → Int} {g h : Nat → Nat} (C : Can n M g) (G : Pm n g) (G' : Pm n h) (n0 : 0 < n) : Wor n M h ≤ Wor n M g := by
  obtain ⟨r, p, F⟩ := C
  exact F.most G G' n0
theorem Fit.can {n : Nat} {M : Nat → Nat → Int} {r : Int} {g : Nat → Nat} {p : Nat → Int} (F : Fit n M r g p) : Can n M g := ⟨r, p, F⟩
end
end RP
namespace RW
open PySem PySem.Spec PyProof.Rows L2 Evl RP
def topS (i : Nat) : Stmt := PySem.Challenge.pw_roomprices_k01_whole_told.main.body.getD i (.Pass ⟨0, 0, 0, 0⟩)
abbrev s_is_number : Stmt := topS 8
abbrev N_is_number : List Str := ["thing"]
abbrev P_is_number : List Str := ["thing"]
theorem sc_is_number : FnScope N_is_number P_is_number (defScope s_is_number) := ⟨rfl, rfl, rfl, by decide +kernel, rfl, by decide +kernel, by decide +kernel⟩
abbrev s_are_numbers : Stmt := topS 9
abbrev N_are_numbers : List Str := ["thing", "many", "one"]
abbrev P_are_numbers : List Str := ["thing", "many"]
theorem sc_are_numbers : FnScope N_are_numbers P_are_numbers (defScope s_are_numbers) := ⟨rfl, rfl, rfl, by decide +kernel, rfl, by decide +kernel, by decide +kernel⟩
abbrev s_asked_table : Stmt := topS 10
abbrev N_asked_table : List Str := ["table", "row"]
abbrev P_asked_table : List Str := ["table"]
theorem sc_asked_table : FnScope N_asked_table P_asked_table (defScope s_asked_table) := ⟨rfl, rfl, rfl, by decide +kernel, rfl, by decide +kernel, by decide +kernel⟩
abbrev s_asked_rent : Stmt := topS 11
abbrev N_asked_rent : List Str := ["rent"]
abbrev P_asked_rent : List Str := ["rent"]
theorem sc_asked_rent : FnScope N_asked_rent P_asked_rent (defScope s_asked_rent) := ⟨rfl, rfl, rfl, by decide +kernel, rfl, by decide +kernel, by decide +kernel⟩
abbrev s_asked_giving : Stmt := topS 12
abbrev N_asked_giving : List Str := ["table", "giving"]
abbrev P_asked_giving : List Str := ["table", "giving"]
theorem sc_asked_giving : FnScope N_asked_giving P_asked_giving (defScope s_asked_giving) := ⟨rfl, rfl, rfl, by decide +kernel, rfl, by decide +kernel, by decide +kernel⟩
abbrev s_asked_prices : Stmt := topS 13
abbrev N_asked_prices : List Str := ["table", "prices"]
abbrev P_asked_prices : List Str := ["table", "prices"]
theorem sc_asked_prices : FnScope N_asked_prices P_asked_prices (defScope s_asked_prices) := ⟨rfl, rfl, rfl, by decide +kernel, rfl, by decide +kernel, by decide +kernel⟩
abbrev s_are_fit : Stmt := topS 14
abbrev N_are_fit : List Str := ["table", "rent", "giving", "prices", "size", "who", "row", "left", "worth", "price"]
abbrev P_are_fit : List Str := ["table", "rent", "giving", "prices"]
theorem sc_are_fit : FnScope N_are_fit P_are_fit (defScope s_are_fit) := ⟨rfl, rfl, rfl, by decide +kernel, rfl, by decide +kernel, by decide +kernel⟩
abbrev s_fit : Stmt := topS 15
abbrev N_fit : List Str := ["table", "rent", "giving", "prices"]
abbrev P_fit : List Str := ["table", "rent", "giving", "prices"]
theorem sc_fit : FnScope N_fit P_fit (defScope s_fit) := ⟨rfl, rfl, rfl, by decide +kernel, rfl, by decide +kernel, by decide +kernel⟩
abbrev s_worth : Stmt := topS 16
abbrev N_worth : List Str := ["table", "giving", "row", "room"]
abbrev P_worth : List Str := ["table", "giving"]
theorem sc_worth : FnScope N_worth P_worth (defScope s_worth) := ⟨rfl, rfl, rfl, by decide +kernel, rfl, by decide +kernel, by decide +kernel⟩
abbrev s_Priced_init : Stmt := inClass (topS 19) 0
abbrev N_Priced_init : List Str := ["self", "prices"]
abbrev P_Priced_init : List Str := ["self", "prices"]
theorem sc_Priced_init : FnScope N_Priced_init P_Priced_init (defScope s_Priced_init) := ⟨rfl, rfl, rfl, by decide +kernel, rfl, by decide +kernel, by decide +kernel⟩
abbrev s_Priced_shows : Stmt := inClass (topS 19) 1
abbrev N_Priced_shows : List Str := ["self", "table", "rent", "giving"]
abbrev P_Priced_shows : List Str := ["self", "table", "rent", "giving"]
theorem sc_Priced_shows : FnScope N_Priced_shows P_Priced_shows (defScope s_Priced_shows) := ⟨rfl, rfl, rfl, by decide +kernel, rfl, by decide +kernel, by decide +kernel⟩
abbrev s_Ring_init : Stmt := inClass (topS 20) 0
abbrev N_Ring_init : List Str := ["self", "people"]
abbrev P_Ring_init : List Str := ["self", "people"]
theorem sc_Ring_init : FnScope N_Ring_init P_Ring_init (defScope s_Ring_init) := ⟨rfl, rfl, rfl, by decide +kernel, rfl, by decide +kernel, by decide +kernel⟩
abbrev s_Ring_shows : Stmt := inClass (topS 20) 1
abbrev N_Ring_shows : List Str := ["self", "table", "rent", "giving", "more", "at", "who", "taker"]
abbrev P_Ring_shows : List Str := ["self", "table", "rent", "giving"]
theorem sc_Ring_shows : FnScope N_Ring_shows P_Ring_shows (defScope s_Ring_shows) := ⟨rfl, rfl, rfl, by decide +kernel, rfl, by decide +kernel, by decide +kernel⟩
abbrev s_Settled_init : Stmt := inClass (topS 21) 0
abbrev N_Settled_init : List Str := ["self", "rooms", "prices"]
abbrev P_Settled_init : List Str := ["self", "rooms", "prices"]
theorem sc_Settled_init : FnScope N_Settled_init P_Settled_init (defScope s_Settled_init) := ⟨rfl, rfl, rfl, by decide +kernel, rfl, by decide +kernel, by decide +kernel⟩
abbrev s_Settled_shows : Stmt := inClass (topS 21) 1
abbrev N_Settled_shows : List Str := ["self", "table", "rent"]
abbrev P_Settled_shows : List Str := ["self", "table", "rent"]
theorem sc_Settled_shows : FnScope N_Settled_shows P_Settled_shows (defScope s_Settled_shows) := ⟨rfl, rfl, rfl, by decide +kernel, rfl, by decide +kernel, by decide +kernel⟩
abbrev s_owners : Stmt := topS 23
abbrev N_owners : List Str := ["giving", "found", "who", "room"]
abbrev P_owners : List Str := ["giving"]
theorem sc_owners : FnScope N_owners P_owners (defScope s_owners) := ⟨rfl, rfl, rfl, by decide +kernel, rfl, by decide +kernel, by decide +kernel⟩
abbrev s_gaps : Stmt := topS 24
abbrev N_gaps : List Str := ["table", "giving", "by", "rooms", "first", "room"]
abbrev P_gaps : List Str := ["table", "giving"]
theorem sc_gaps : FnScope N_gaps P_gaps (defScope s_gaps) := ⟨rfl, rfl, rfl, by decide +kernel, rfl, by decide +kernel, by decide +kernel⟩
abbrev s_barring : Stmt := topS 25
abbrev N_barring : List Str := ["table", "giving", "size", "by", "far", "ahead", "last", "turn", "first", "room", "found"]
abbrev P_barring : List Str := ["table", "giving"]
theorem sc_barring : FnScope N_barring P_barring (defScope s_barring) := ⟨rfl, rfl, rfl, by decide +kernel, rfl, by decide +kernel, by decide +kernel⟩
abbrev s_bounds : Stmt := topS 26
abbrev N_bounds : List Str := ["table", "giving", "far", "size", "middle", "first", "room"]
abbrev P_bounds : List Str := ["table", "giving"]
theorem sc_bounds : FnScope N_bounds P_bounds (defScope s_bounds) := ⟨rfl, rfl, rfl, by decide +kernel, rfl, by decide +kernel, by decide +kernel⟩
abbrev s_told_of : Stmt := topS 27
abbrev N_told_of : List Str := ["table", "rent", "giving", "around", "by", "far", "base", "room", "more"]
abbrev P_told_of : List Str := ["table", "rent", "giving"]
theorem sc_told_of : FnScope N_told_of P_told_of (defScope s_told_of) := ⟨rfl, rfl, rfl, by decide +kernel, rfl, by decide +kernel, by decide +kernel⟩
abbrev s_told : Stmt := topS 28
abbrev N_told : List Str := ["table", "rent", "giving"]
abbrev P_told : List Str := ["table", "rent", "giving"]
theorem sc_told : FnScope N_told P_told (defScope s_told) := ⟨rfl, rfl, rfl, by decide +kernel, rfl, by decide +kernel, by decide +kernel⟩
abbrev s_put_in : Stmt := topS 30
abbrev N_put_in : List Str := ["table", "who", "mine", "theirs", "owner", "rooms", "least", "ahead", "done", "here", "now", "room", "cost", "by"]
abbrev P_put_in : List Str := ["table", "who", "mine", "theirs", "owner"]
theorem sc_put_in : FnScope N_put_in P_put_in (defScope s_put_in) := ⟨rfl, rfl, rfl, by decide +kernel, rfl, by decide +kernel, by decide +kernel⟩
abbrev s_best : Stmt := topS 31
abbrev N_best : List Str := ["table", "size", "mine", "theirs", "owner", "who", "found", "room"]
abbrev P_best : List Str := ["table"]
theorem sc_best : FnScope N_best P_best (defScope s_best) := ⟨rfl, rfl, rfl, by decide +kernel, rfl, by decide +kernel, by decide +kernel⟩
abbrev s_settled : Stmt := topS 32
abbrev N_settled : List Str := ["table", "rent", "rooms"]
abbrev P_settled : List Str := ["table", "rent"]
theorem sc_settled : FnScope N_settled P_settled (defScope s_settled) := ⟨rfl, rfl, rfl, by decide +kernel, rfl, by decide +kernel, by decide +kernel⟩
abbrev s__law_number : Stmt := topS 34
abbrev N__law_number : List Str := ["_law_cell", "_law_at", "_law_whole", "_law_mixed", "_law_more_here"]
abbrev P__law_number : List Str := ["_law_cell", "_law_at", "_law_whole"]
theorem sc__law_number : FnScope N__law_number P__law_number (defScope s__law_number) := ⟨rfl, rfl, rfl, by decide +kernel, rfl, by decide +kernel, by decide +kernel⟩
abbrev s__law_table : Stmt := topS 35
abbrev N__law_table : List Str := ["_law_script", "_law_size_here", "_law_cells", "_law_whole", "_law_wide", "_law_found", "_law_who", "_law_row", "_law_room", "_law_at", "_law_number_here"]
abbrev P__law_table : List Str := ["_law_script", "_law_size_here"]
theorem sc__law_table : FnScope N__law_table P__law_table (defScope s__law_table) := ⟨rfl, rfl, rfl, by decide +kernel, rfl, by decide +kernel, by decide +kernel⟩
abbrev s__law_giving : Stmt := topS 36
abbrev N__law_giving : List Str := ["_law_script", "_law_size_here", "_law_by", "_law_cells", "_law_found", "_law_at", "_law_number_here"]
abbrev P__law_giving : List Str := ["_law_script", "_law_size_here", "_law_by"]
theorem sc__law_giving : FnScope N__law_giving P__law_giving (defScope s__law_giving) := ⟨rfl, rfl, rfl, by decide +kernel, rfl, by decide +kernel, by decide +kernel⟩
abbrev s__law_size : Stmt := topS 37
abbrev N__law_size : List Str := ["_law_script", "_law_whole"]
abbrev P__law_size : List Str := ["_law_script"]
theorem sc__law_size : FnScope N__law_size P__law_size (defScope s__law_size) := ⟨rfl, rfl, rfl, by decide +kernel, rfl, by decide +kernel, by decide +kernel⟩
abbrev s__law_rent : Stmt := topS 38
abbrev N__law_rent : List Str := ["_law_script", "_law_by", "_law_cells", "_law_number_here"]
abbrev P__law_rent : List Str := ["_law_script", "_law_by"]
theorem sc__law_rent : FnScope N__law_rent P__law_rent (defScope s__law_rent) := ⟨rfl, rfl, rfl, by decide +kernel, rfl, by decide +kernel, by decide +kernel⟩
abbrev s__law_fit : Stmt := topS 39
abbrev N__law_fit : List Str := ["_law_table_here", "_law_rent_here", "_law_giving_here", "_law_prices", "_law_size_here", "_law_who", "_law_row", "_law_mine", "_law_room"]
abbrev P__law_fit : List Str := ["_law_table_here", "_law_rent_here", "_law_giving_here", "_law_prices"]
theorem sc__law_fit : FnScope N__law_fit P__law_fit (defScope s__law_fit) := ⟨rfl, rfl, rfl, by decide +kernel, rfl, by decide +kernel, by decide +kernel⟩
abbrev s__law_numbers : Stmt := topS 40
abbrev N__law_numbers : List Str := ["_law_found", "_law_many", "_law_one"]
abbrev P__law_numbers : List Str := ["_law_found", "_law_many"]
theorem sc__law_numbers : FnScope N__law_numbers P__law_numbers (defScope s__law_numbers) := ⟨rfl, rfl, rfl, by decide +kernel, rfl, by decide +kernel, by decide +kernel⟩
abbrev s__law_more : Stmt := topS 41
abbrev N__law_more : List Str := ["_law_table_here", "_law_giving_here", "_law_people", "_law_total", "_law_who", "_law_other", "_law_row"]
abbrev P__law_more : List Str := ["_law_table_here", "_law_giving_here", "_law_people"]
theorem sc__law_more : FnScope N__law_more P__law_more (defScope s__law_more) := ⟨rfl, rfl, rfl, by decide +kernel, rfl, by decide +kernel, by decide +kernel⟩
abbrev s__law_due : Stmt := topS 42
abbrev N__law_due : List Str := ["_law_table_here", "_law_rent_here", "_law_giving_here", "_law_found", "_law_more_here"]
abbrev P__law_due : List Str := ["_law_table_here", "_law_rent_here", "_law_giving_here", "_law_found"]
theorem sc__law_due : FnScope N__law_due P__law_due (defScope s__law_due) := ⟨rfl, rfl, rfl, by decide +kernel, rfl, by decide +kernel, by decide +kernel⟩
abbrev s__law_right : Stmt := topS 43
abbrev N__law_right : List Str := ["_law_table_here", "_law_rent_here", "_law_giving_here", "_law_others", "_law_handed", "_law_found", "_law_some", "_law_far", "_law_other", "_law_row"]
abbrev P__law_right : List Str := ["_law_table_here", "_law_rent_here", "_law_giving_here", "_law_others"]
theorem sc__law_right : FnScope N__law_right P__law_right (defScope s__law_right) := ⟨rfl, rfl, rfl, by decide +kernel, rfl, by decide +kernel, by decide +kernel⟩
abbrev s_law : Stmt := topS 44
abbrev N_law : List Str := ["_law_script", "_law_whole", "_law_size_here", "_law_table_here", "_law_rent_here", "_law_good", "_law_bent", "_law_one", "_law_other", "_law_drawn", "_law_giving_here", "_law_who", "_law_room"]
abbrev P_law : List Str := ["_law_script"]
theorem sc_law : FnScope N_law P_law (defScope s_law) := ⟨rfl, rfl, rfl, by decide +kernel, rfl, by decide +kernel, by decide +kernel⟩
end RW
namespace RW
open PySem PySem.Spec PyProof.Rows L2 Evl RP
section
variable {P : Program} {w : World} {K : PySem.W.Frag} {mg : Str → Option Value} {base : Heap}
def spNum (K : PySem.W.Frag) : Sp := fun vs H Q _ => ∃ x Ty, vs = [x] ∧ Kn K H x Ty ∧ RetV (.bl (isInt x)) H Q
theorem c_is_number (T : Blt mg) {f : Addr} {fd : FuncData} (F : Fun K "is_number" "is_number" s_is_number f fd) (g : mg "is_number" = some (.ref f)) (b : Binds K fd P_is_number []) : Cl P w K mg base 1 "is_number" (spNum K) := by
  refine ⟨f, fd, _, fn_lift (F.ok sc_is_number (fun vs H Q E h => ?_) (fun cdv A outer s H vs Q E hr h => ?_)), g, F.kp, b⟩
  · obtain ⟨x, Ty, rfl, _⟩ := h
    rfl
  · obtain ⟨x, Ty, rfl, hk, q⟩ := h
    refine ⟨_, (pss_one (ps_ret (pe_and (pe_callB (k_isi K) (by rfl) T.isinstance (by decide +kernel) (pa_cons (pv 0) (pa_cons (pe_bltn (v := .ty "int") (by rfl) T.int (by decide +kernel) rfl) pa_nil))) (pe_one (pe_not (pe_callB (k_isi K) (by rfl) T.isinstance (by decide +kernel) (pa_cons (pv 0) (pa_cons (pe_bltn (v := .ty "bool") (by rfl) T.bool (by decide +kernel) rfl) pa_nil)))))))), ?_⟩
    obtain ⟨k1, k2, k3⟩ := kit_num hk.mem
    refine s_ret (ev_is (ev_andV (ev_isi (ev_var rfl) hk.ty k1) fun _ => ev_notV (ev_isi (ev_var rfl) hk.ty k2)) ?_) q
    rw [hk.int]
    by_cases h1 : Ty = "int"
    · subst h1
      rfl
    · have e1 : (Ty == "int") = false := by simpa using h1
      rw [e1, Bool.false_or]
      cases (Ty == "bool") <;> rfl
theorem ev_num {te : TE} {σ : L2.St} {H : Hp} {x : V} {Ty : String} {E : XK} (h : Ev te σ H x) (hk : Kn K H x Ty) : Ev (tCall (spNum K) [] E (tCons te tNil)) σ H (.bl (isInt x)) :=
  ev_call (ea_cons h ea_nil) fun H1 e Q q E => ⟨x, Ty, rfl, hk.mono e, q⟩
def spNums (K : PySem.W.Frag) : Sp := fun vs H Q _ => ∃ x many b, vs = [x, .int ((many : Nat) : Int)] ∧ RowV K H many x b ∧ RetV (.bl b) H Q
theorem c_are_numbers (T : Blt mg) (c_is_number : Cl P w K mg base 1 "is_number" (spNum K)) {f : Addr} {fd : FuncData} (F : Fun K "are_numbers" "are_numbers" s_are_numbers f fd) (g : mg "are_numbers" = some (.ref f)) (b : Binds K fd P_are_numbers []) :
    Cl P w K mg base 2 "are_numbers" (spNums K) := by
  refine ⟨f, fd, _, fn_lift (F.ok sc_are_numbers (fun vs H Q E h => ?_) (fun cdv A outer s H vs Q E hr h => ?_)), g, F.kp, b⟩
  · obtain ⟨x, m, b, rfl, _⟩ := h
    rfl
  · obtain ⟨x, m, b, rfl, hk, q⟩ := h
    refine ⟨_, (pss_one (ps_ret (pe_and (pe_callB (k_isi K) (by rfl) T.isinstance (by decide +kernel) (pa_cons (pv 0) (pa_cons (pe_bltn (v := .ty "list") (by rfl) T.list_ (by decide +kernel) rfl) pa_nil))) (pe_and (pe_cmpR op_eq (pe_callB (k_len K) (by rfl) T.len (by decide +kernel) (pa_cons (pv 0) pa_nil)) (pv 1) (nomark _)) (pe_one (pe_callB (k_all K) (by rfl) T.all_ (by decide +kernel) (pa_cons (pe_lc (own := [("one", 2)]) rfl sc_are_numbers.nd (pi_l K (pv 0)) (blkOk_by (by kernel_rfl)) (fun _ _ _ _ _ => (pg_name (i := 2) sc_are_numbers.nd rfl (by first | exact Or.inl rfl | exact Or.inr rfl))) (fun _ _ _ _ _ => pts_nil) (fun _ _ _ _ _ => (pe_k c_is_number hr (by decide) passL (by rfl) (pa_cons (pv 2) pa_nil)))) pa_nil))))))), ?_⟩
    cases hk with
    | @no x Ty h hT =>
      obtain ⟨k1, k2, k3⟩ := kit_num h.mem
      have e1 : (Ty == "list") = false := by simpa using hT
      rw [e1] at k3
      exact s_ret (ev_andV (b := true) (ev_isi (ev_var rfl) h.ty k3) fun z => nomatch z) q
    | @lst a n f h hm hk =>
      refine s_ret (ev_andV (ev_isi (N := "list") (b := true) (ev_var rfl) (tyx_list h) (by decide +kernel)) fun _ => ev_andV (ev_eqI (ev_lenf (ev_var rfl) h) (ev_var rfl)) fun _ => ev_allL (bs := bf n fun i => isInt (f i)) ?_) ?_
      · rw [← vf_bf]
        refine el_lc _ (ev_var rfl) h (by omega) (fun _ => rfl) fun i H1 e hi => ?_
        obtain ⟨Ty, q⟩ := hk i hi
        exact ev_num (ev_var rfl) (q.mono e)
      · rw [Bool.true_and, show decide ((n : Int) = (m : Int)) = decide (n = m) from decide_eq_decide.mpr (by omega)]
        exact q
theorem ev_nums {ta tb : TE} {σ : L2.St} {H : Hp} {x : V} {m : Nat} {b : Bool} {E : XK} (h : Ev ta σ H x) (hm : Ev tb σ H (.int (m : Int))) (hk : RowV K H m x b) : Ev (tCall (spNums K) [] E (tCons ta (tCons tb tNil))) σ H (.bl b) :=
  ev_call (ea_cons h (ea_cons hm ea_nil)) fun H1 e Q q E => ⟨x, m, b, rfl, hk.mono e, q⟩
/-! ### what is asked of a table, a rent, a giving, prices -/
def spTable (K : PySem.W.Frag) (C : Addr) : Sp := fun vs H Q E => ∃ x b, vs = [x] ∧ TabV K H x b ∧ (b = true → RetV .non H Q) ∧ (b = false → RetX C H E)
theorem c_asked_table (T : Blt mg) (g_MOST : GV mg "MOST" (.int 12)) {C : Addr} (x_BadTable : Xc K mg "BadTable" C) (c_are_numbers : Cl P w K mg base 2 "are_numbers" (spNums K)) {f : Addr} {fd : FuncData} (F : Fun K "asked_table" "asked_table" s_asked_table f fd) (g : mg "asked_table" = some (.ref f)) (b : Binds K fd P_asked_table []) :
    Cl P w K mg base 3 "asked_table" (spTable K C) := by
  refine ⟨f, fd, _, (F.okX sc_asked_table (fun vs H Q E h => ?_) (fun cdv A outer s H vs Q E hr h => ?_)), g, F.kp, b⟩
  · obtain ⟨x, b, rfl, _⟩ := h
    rfl
  · obtain ⟨x, b, rfl, hk, q1, q2⟩ := h
    refine ⟨_, (pss_cons (ps_if (PW.pt (pw_or (pt_not (pt_val (pe_callB (k_isi K) (by rfl) T.isinstance (by decide +kernel) (pa_cons (pv 0) (pa_cons (pe_bltn (v := .ty "list") (by rfl) T.list_ (by decide +kernel) rfl) pa_nil))))) (pw_or1 (pt_not (pt_chain op_le op_le pe_int (pe_callB (k_len K) (by rfl) T.len (by decide +kernel) (pa_cons (pv 0) pa_nil)) (pe_gv g_MOST (by rfl))))))) (pss_one (ps_raise rfl (takes_of rfl rfl rfl rfl) (pmk_own PySem.F.excBase_ValueError x_BadTable.x x_BadTable.g x_BadTable.k (raises_own x_BadTable.b x_BadTable.t) rfl))) pss_nil) (pss_one (ps_if (pt_not (pt_val (pe_callB (k_all K) (by rfl) T.all_ (by decide +kernel) (pa_cons (pe_lc (own := [("row", 1)]) rfl sc_asked_table.nd (pi_l K (pv 0)) (blkOk_by (by kernel_rfl)) (fun _ _ _ _ _ => (pg_name (i := 1) sc_asked_table.nd rfl (by first | exact Or.inl rfl | exact Or.inr rfl))) (fun _ _ _ _ _ => pts_nil) (fun _ _ _ _ _ => (pe_k c_are_numbers hr (by decide) passL (by rfl) (pa_cons (pv 1) (pa_cons (pe_callB (k_len K) (by rfl) T.len (by decide +kernel) (pa_cons (pv 0) pa_nil)) pa_nil))))) pa_nil)))) (pss_one (ps_raise rfl (takes_of rfl rfl rfl rfl) (pmk_own PySem.F.excBase_ValueError x_BadTable.x x_BadTable.g x_BadTable.k (raises_own x_BadTable.b x_BadTable.t) rfl))) pss_nil))), ?_⟩
    cases hk with
    | @no x Ty h hT =>
      obtain ⟨k1, k2, k3⟩ := kit_num h.mem
      have e1 : (Ty == "list") = false := by simpa using hT
      rw [e1] at k3
      refine q_when (et_or (b := false) (et_not (et_B (ev_isi (ev_var rfl) h.ty k3))) fun z => nomatch z) (fun _ H1 e => q2 rfl H1 e) fun z => nomatch z
    | @lst a n f b h hm hk =>
      have hl : ∀ {H1}, Ex H H1 → Ev (tCB (rLenS K) (tCons (tVar 0) tNil)) [some (.ref a), none] H1 (.int (n : Int)) := fun e => ev_lenf (ev_var rfl) (ex_l e h)
      refine q_when (b := !decide (1 ≤ n ∧ n ≤ 12)) (et_is (et_or (et_not (et_B (ev_isi (N := "list") (b := true) (ev_var rfl) (tyx_list h) (by decide +kernel)))) fun _ => et_not (et_test (ev_chain (r := rI0 fun i j => .bl (decide (i ≤ j))) (r' := rI0 fun i j => .bl (decide (i ≤ j))) (b1 := decide ((1 : Int) ≤ (n : Int))) (b2 := decide ((n : Int) ≤ (12 : Int))) ev_c (hl (Ex.refl H)) rv_I0 (fun _ => ev_c) fun _ => rv_I0))) ?_) (fun hb H1 e => ?_) fun hb H1 e => ?_
      · rw [Bool.not_true, Bool.false_or, ← Bool.decide_and]
        congr 1
        exact decide_eq_decide.mpr (by omega)
      · rw [show decide (1 ≤ n ∧ n ≤ 12) = false from Bool.not_eq_true' _ |>.mp hb] at q2
        exact q2 rfl H1 e
      · rw [show decide (1 ≤ n ∧ n ≤ 12) = true from Bool.not_eq_false' _ |>.mp hb] at q1 q2
        refine s_when (b := !(bf n b).all id) (et_not (et_B (ev_allL (bs := bf n b) ?_))) (fun hb H2 e2 => ?_) fun hb H2 e2 => ?_
        · rw [← vf_bf]
          exact el_lc _ (ev_var rfl) (ex_l e h) (by omega) (fun _ => rfl) fun i H2 e2 hi => ev_nums (ev_var rfl) (ev_lenf (ev_var rfl) (ex_l (e.trans e2) h)) ((hk i hi).mono (e.trans e2))
        · exact q2 (by simpa using hb) H2 (e.trans e2)
        · exact q1 (by simpa using hb) H2 (e.trans e2)
end
end RW
namespace RW
open PySem PySem.Spec PyProof.Rows L2 Evl RP
section
variable {P : Program} {w : World} {K : PySem.W.Frag} {mg : Str → Option Value} {base : Heap}
def spRent (K : PySem.W.Frag) (C : Addr) : Sp := fun vs H Q E => ∃ x Ty, vs = [x] ∧ Kn K H x Ty ∧ (isInt x = true → RetV .non H Q) ∧ (isInt x = false → RetX C H E)
theorem c_asked_rent (T : Blt mg) {C : Addr} (x_BadRent : Xc K mg "BadRent" C) (c_is_number : Cl P w K mg base 1 "is_number" (spNum K)) {f : Addr} {fd : FuncData} (F : Fun K "asked_rent" "asked_rent" s_asked_rent f fd) (g : mg "asked_rent" = some (.ref f)) (b : Binds K fd P_asked_rent []) :
    Cl P w K mg base 2 "asked_rent" (spRent K C) := by
  refine ⟨f, fd, _, (F.okX sc_asked_rent (fun vs H Q E h => ?_) (fun cdv A outer s H vs Q E hr h => ?_)), g, F.kp, b⟩
  · obtain ⟨x, Ty, rfl, _⟩ := h
    rfl
  · obtain ⟨x, Ty, rfl, hk, q1, q2⟩ := h
    refine ⟨_, (pss_one (ps_if (pt_not (pt_val (pe_k c_is_number hr (by decide) (passes_call (takes_of rfl rfl rfl rfl) fun _ _ _ _ h => h) (by rfl) (pa_cons (pv 0) pa_nil)))) (pss_one (ps_raise rfl (takes_of rfl rfl rfl rfl) (pmk_own PySem.F.excBase_ValueError x_BadRent.x x_BadRent.g x_BadRent.k (raises_own x_BadRent.b x_BadRent.t) rfl))) pss_nil)), ?_⟩
    exact s_when (b := !isInt x) (et_not (et_B (ev_num (ev_var rfl) hk))) (fun hb H1 e => q2 (by simpa using hb) H1 e) fun hb H1 e => q1 (by simpa using hb) H1 e
/-- whether it tells each of so many rooms once -/
inductive GivV (K : PySem.W.Frag) (H : Hp) (n : Nat) : V → Bool → Prop
  | no {x : V} (h : RowV K H n x false) : GivV K H n x false
  | lst {c : Addr} {f : Nat → Int} {b : Bool} (h : SqL K H c (vl n f)) (hb : b = true ↔ Gv n f) : GivV K H n (.ref c) b
theorem GivV.mono {H H' : Hp} (e : Ex H H') {n : Nat} {x : V} {b : Bool} (h : GivV K H n x b) : GivV K H' n x b := by
  cases h with
  | no h => exact .no (h.mono e)
  | lst h hb => exact .lst (ex_l e h) hb
def spGiving (K : PySem.W.Frag) (C : Addr) : Sp := fun vs H Q E => ∃ t n fr x b, vs = [.ref t, x] ∧ SqL K H t (vf n fr) ∧ n ≤ 12 ∧ GivV K H n x b ∧ (b = true → RetV .non H Q) ∧ (b = false → RetX C H E)
theorem c_asked_giving (T : Blt mg) {C : Addr} (x_BadGiving : Xc K mg "BadGiving" C) (c_are_numbers : Cl P w K mg base 2 "are_numbers" (spNums K)) {f : Addr} {fd : FuncData} (F : Fun K "asked_giving" "asked_giving" s_asked_giving f fd) (g : mg "asked_giving" = some (.ref f)) (b : Binds K fd P_asked_giving []) :
    Cl P w K mg base 3 "asked_giving" (spGiving K C) := by
  refine ⟨f, fd, _, (F.okX sc_asked_giving (fun vs H Q E h => ?_) (fun cdv A outer s H vs Q E hr h => ?_)), g, F.kp, b⟩
  · obtain ⟨t, n, fr, x, b, rfl, _⟩ := h
    rfl
  · obtain ⟨t, n, fr, x, b, rfl, ht, hn, hk, q1, q2⟩ := h
    refine ⟨_, (pss_one (ps_if (PW.pt (pw_or (pt_not (pt_val (pe_k c_are_numbers hr (by decide) (passes_call (takes_of rfl rfl rfl rfl) fun _ _ _ _ h => h) (by rfl) (pa_cons (pv 1) (pa_cons (pe_callB (k_len K) (by rfl) T.len (by decide +kernel) (pa_cons (pv 0) pa_nil)) pa_nil))))) (pw_or1 (pt_cmpR (k_neD K hr.units) (pe_callB (k_sorted K) (by rfl) T.sorted (by decide +kernel) (pa_cons (pv 1) pa_nil)) (pe_listRg rfl (by rfl) T.list_ (prg_1 (by rfl) T.range (pe_callB (k_len K) (by rfl) T.len (by decide +kernel) (pa_cons (pv 0) pa_nil)))) (nomark _))))) (pss_one (ps_raise rfl (takes_of rfl rfl rfl rfl) (pmk_own PySem.F.excBase_ValueError x_BadGiving.x x_BadGiving.g x_BadGiving.k (raises_own x_BadGiving.b x_BadGiving.t) rfl))) pss_nil)), ?_⟩
    cases hk with
    | no h => exact s_when (b := true) (et_or (a := true) (b := true) (et_not (et_B (ev_nums (ev_var rfl) (ev_lenf (ev_var rfl) ht) h))) fun z => nomatch z) (fun _ H1 e => q2 rfl H1 e) fun z => nomatch z
    | @lst c fg _ h hb =>
      refine s_when (b := !b) (et_is (et_or (a := false) (et_not (et_B (ev_nums (ev_var rfl) (ev_lenf (ev_var rfl) ht) (RowV.good h (by omega))))) fun _ => et_test (ev_srtNe (ev_var rfl) h (by omega) (ev_lenf (ev_var rfl) ht) (by omega))) ?_) (fun hb H1 e => q2 (by simpa using hb) H1 e) fun hb H1 e => q1 (by simpa using hb) H1 e
      rw [Bool.false_or]
      congr 1
      rw [Bool.eq_iff_iff, decide_eq_true_iff, srt_gv, hb]
def spPrices (K : PySem.W.Frag) (C : Addr) : Sp := fun vs H Q E => ∃ t n fr x b, vs = [.ref t, x] ∧ SqL K H t (vf n fr) ∧ RowV K H n x b ∧ (b = true → RetV .non H Q) ∧ (b = false → RetX C H E)
theorem c_asked_prices (T : Blt mg) {C : Addr} (x_BadPrices : Xc K mg "BadPrices" C) (c_are_numbers : Cl P w K mg base 2 "are_numbers" (spNums K)) {f : Addr} {fd : FuncData} (F : Fun K "asked_prices" "asked_prices" s_asked_prices f fd) (g : mg "asked_prices" = some (.ref f)) (b : Binds K fd P_asked_prices []) :
    Cl P w K mg base 3 "asked_prices" (spPrices K C) := by
  refine ⟨f, fd, _, (F.okX sc_asked_prices (fun vs H Q E h => ?_) (fun cdv A outer s H vs Q E hr h => ?_)), g, F.kp, b⟩
  · obtain ⟨t, n, fr, x, b, rfl, _⟩ := h
    rfl
  · obtain ⟨t, n, fr, x, b, rfl, ht, hk, q1, q2⟩ := h
    refine ⟨_, (pss_one (ps_if (pt_not (pt_val (pe_k c_are_numbers hr (by decide) (passes_call (takes_of rfl rfl rfl rfl) fun _ _ _ _ h => h) (by rfl) (pa_cons (pv 1) (pa_cons (pe_callB (k_len K) (by rfl) T.len (by decide +kernel) (pa_cons (pv 0) pa_nil)) pa_nil))))) (pss_one (ps_raise rfl (takes_of rfl rfl rfl rfl) (pmk_own PySem.F.excBase_ValueError x_BadPrices.x x_BadPrices.g x_BadPrices.k (raises_own x_BadPrices.b x_BadPrices.t) rfl))) pss_nil)), ?_⟩
    exact s_when (b := !b) (et_not (et_B (ev_nums (ev_var rfl) (ev_lenf (ev_var rfl) ht) hk))) (fun hb H1 e => q2 (by simpa using hb) H1 e) fun hb H1 e => q1 (by simpa using hb) H1 e
/-! ### what fits -/
/-- a table, a giving, prices at their places -/
def spAre (K : PySem.W.Frag) : Sp := fun vs H Q _ => ∃ t n a M r c g p f b, vs = [.ref t, .int r, .ref c, .ref p] ∧ Tab K H t n a M ∧ 0 < n ∧ n ≤ 12 ∧ SqL K H c (vn n g) ∧ (∀ i, i < n → g i < n) ∧ SqL K H p (vl n f) ∧ (b = true ↔ Fit n M r g f) ∧ RetV (.bl b) H Q
theorem c_are_fit (T : Blt mg) {f : Addr} {fd : FuncData} (F : Fun K "are_fit" "are_fit" s_are_fit f fd) (g : mg "are_fit" = some (.ref f)) (b : Binds K fd P_are_fit []) : Cl P w K mg base 1 "are_fit" (spAre K) := by
  refine ⟨f, fd, _, fn_lift (F.ok sc_are_fit (fun vs H Q E h => ?_) (fun cdv A outer s H vs Q E hr h => ?_)), g, F.kp, b⟩
  · obtain ⟨t, n, a, M, r, c, g, p, f, b, rfl, _⟩ := h
    rfl
  · obtain ⟨t, n, a, M, r, c, g, p, f, b, rfl, hT, n0, n12, hg, gl, hp, hb, q⟩ := h
    refine ⟨_, (pss_cons (ps_set (i := 4) sc_are_fit.nd rfl (by first | exact Or.inl rfl | exact Or.inr rfl) (pe_callB (k_len K) (by rfl) T.len (by decide +kernel) (pa_cons (pv 0) pa_nil))) (pss_cons (ps_if (pt_cmpR op_ne (pe_callB (k_sum K) (by rfl) T.sum (by decide +kernel) (pa_cons (pv 3) pa_nil)) (pe_op op_mulX (pv 4) (pv 1)) (nomark _)) (pss_one (ps_ret pe_bl)) pss_nil) (pss_cons (ps_for PassesOwn.never rfl (pi_en K (by rfl) T.enumerate (pa_cons (pv 0) pa_nil)) (pg_t K (n := 2) rfl (pgs_cons (pg_name (i := 5) sc_are_fit.nd rfl (by first | exact Or.inl rfl | exact Or.inr rfl)) (pgs_cons (pg_name (i := 6) sc_are_fit.nd rfl (by first | exact Or.inl rfl | exact Or.inr rfl)) pgs_nil))) (pss_cons (ps_setLc (i := 7) (own := [("worth", 8), ("price", 9)]) rfl sc_are_fit.nd rfl rfl (sw_true rfl rfl rfl (by decide +kernel)) (pi_zp K (by rfl) T.zip (pa_cons (pv 6) (pa_cons (pv 3) pa_nil))) (blkOk_by (by kernel_rfl)) (fun _ _ _ _ _ => (pg_t K (n := 2) rfl (pgs_cons (pg_name (i := 8) sc_are_fit.nd rfl (by first | exact Or.inl rfl | exact Or.inr rfl)) (pgs_cons (pg_name (i := 9) sc_are_fit.nd rfl (by first | exact Or.inl rfl | exact Or.inr rfl)) pgs_nil)))) (fun _ _ _ _ _ => pts_nil) (fun _ _ _ _ _ => (pe_op op_sub (pe_op op_mulX (pv 4) (pv 8)) (pv 9)))) (pss_one (ps_if (pt_cmpR op_ne (pe_ix (k_ix K) (pv 7) (pe_ix (k_ix K) (pv 2) (pv 5) (fun _ _ => rfl)) (fun _ _ => rfl)) (pe_callB (k_max K) (by rfl) T.max_ (by decide +kernel) (pa_cons (pv 7) pa_nil)) (nomark _)) (pss_one (ps_ret pe_bl)) pss_nil)))) (pss_one (ps_ret pe_bl))))), ?_⟩
    -- size = len(table)
    refine q_asg (ev_lenf (ev_var rfl) hT.rows) fun H1 e1 => ?_
    -- if sum(prices) != size * rent: return False
    refine q_when (b := !decide (sumN n f = (n : Int) * r)) (et_test (ev_neI (ev_sum (ev_var rfl) (ex_l e1 hp)) (ev_mul (ev_var rfl) (ev_var rfl) (mulok_n (by omega))))) (fun hf H2 e2 => ?_) fun hf H2 e2 => ?_
    · have h1 : ¬ sumN n f = (n : Int) * r := by simpa using hf
      have h2 : b = false := by
        cases b with
        | false => rfl
        | true => exact absurd (hb.mp rfl).sum h1
      subst h2
      exact s_ret ev_c fun H3 e3 => q H3 ((e1.trans e2).trans e3)
    · have h1 : sumN n f = (n : Int) * r := by simpa using hf
      have e12 := e1.trans e2
      -- for who, row in enumerate(table)
      refine q_forE (ea_cons (ev_var rfl) ea_nil) (ex_l e12 hT.rows) (fun i σ' H' => ∃ x5 x6 x7 x8 x9, σ' = [some (.ref t), some (.int r), some (.ref c), some (.ref p), some (.int (n : Int)), x5, x6, x7, x8, x9] ∧ Ex H H' ∧ ∀ k, k < i → ∀ j, j < n → (n : Int) * M k j - f j ≤ (n : Int) * M k (g k) - f (g k))
        (fun H3 e3 => ⟨_, _, _, _, _, rfl, e12.trans e3, fun k hk => absurd hk (Nat.not_lt_zero k)⟩) (fun i σ' H' _ ⟨_, _, _, _, _, _, e, _⟩ => ex_l e hT.rows) (fun i σ' H' H3 hi hP e3 => ?_) fun σ' H' hP => ?_
      · obtain ⟨x5, x6, x7, x8, x9, rfl, eH, hk⟩ := hP
        have eH3 := eH.trans e3
        -- left = [..]
        refine q_asgL (xs := vl n fun j => (n : Int) * M i j - f j) (el_lcZ _ (ea_cons (ev_var rfl) (ea_cons (ev_var rfl) ea_nil)) (ex_l eH3 (hT.row i hi)) (ex_l eH3 hp) (by omega) (fun _ _ => rfl) fun j H4 e4 hj => ev_sub (ev_mul (ev_var rfl) (ev_var rfl) (mulok_n (by omega))) (ev_var rfl)) fun l H4 _ e4 h4 => ?_
        obtain ⟨m, hm, hl⟩ := has_max n (fun j => (n : Int) * M i j - f j) n0
        refine s_when (b := !decide ((n : Int) * M i (g i) - f (g i) = m)) (et_test (ev_neI (ev_ixl (ev_var rfl) (ev_ixn (ev_var rfl) (ev_var rfl) (ex_l (eH3.trans e4) hg) hi) (sq_of h4) (gl i hi)) (ev_max (ev_var rfl) (sq_of h4) hm hl))) (fun hf H5 e5 => ?_) fun hf H5 e5 => ?_
        · have h1 : ¬ (n : Int) * M i (g i) - f (g i) = m := by simpa using hf
          have h2 : b = false := by
            cases b with
            | false => rfl
            | true =>
              obtain ⟨j, hj, ej⟩ := hm
              have a1 := (hb.mp rfl).no i j hi hj
              have a2 := hl (g i) (gl i hi)
              exact absurd (by omega) h1
          subst h2
          exact s_ret ev_c fun H6 e6 => q H6 (((eH3.trans e4).trans e5).trans e6)
        · have h1 : (n : Int) * M i (g i) - f (g i) = m := by simpa using hf
          refine ⟨_, _, _, _, _, rfl, (eH3.trans e4).trans e5, fun k hk' j hj => ?_⟩
          by_cases ek : k = i
          · rw [ek, h1]
            exact hl j hj
          · exact hk k (by omega) j hj
      · obtain ⟨x5, x6, x7, x8, x9, rfl, eH, hk⟩ := hP
        have h2 : b = true := hb.mpr ⟨h1, fun i j hi hj => hk i hi j hj⟩
        subst h2
        exact s_ret ev_c fun H6 e6 => q H6 (eH.trans e6)
theorem ev_are {t1 t2 t3 t4 : TE} {σ : L2.St} {H : Hp} {E : XK} {t c p : Addr} {n : Nat} {a : Nat → Addr} {M : Nat → Nat → Int} {r : Int} {g : Nat → Nat} {f : Nat → Int} {b : Bool} (h1 : Ev t1 σ H (.ref t)) (h2 : Ev t2 σ H (.int r)) (h3 : Ev t3 σ H (.ref c)) (h4 : Ev t4 σ H (.ref p))
    (hT : Tab K H t n a M) (n0 : 0 < n) (n12 : n ≤ 12) (hg : SqL K H c (vn n g)) (gl : ∀ i, i < n → g i < n) (hp : SqL K H p (vl n f)) (hb : b = true ↔ Fit n M r g f) : Ev (tCall (spAre K) [] E (tCons t1 (tCons t2 (tCons t3 (tCons t4 tNil))))) σ H (.bl b) :=
  ev_call (ea_cons h1 (ea_cons h2 (ea_cons h3 (ea_cons h4 ea_nil)))) fun H1 e Q q E => ⟨t, n, a, M, r, c, g, p, f, b, rfl, hT.mono e, n0, n12, ex_l e hg, gl, ex_l e hp, hb, q⟩
/-! ### the doors: what is handed in, looked at from the left -/
/-- a table, or BadTable -/
def AskT (K : PySem.W.Frag) (C : Addr) (x : V) (H : Hp) (E : XK) (k : Addr → Nat → (Nat → Addr) → (Nat → Nat → Int) → Prop) : Prop :=
  (TabV K H x false ∧ RetX C H E) ∨ ∃ t n a M, x = .ref t ∧ Tab K H t n a M ∧ 1 ≤ n ∧ n ≤ 12 ∧ k t n a M
def AskR (K : PySem.W.Frag) (C : Addr) (x : V) (H : Hp) (E : XK) (k : Int → Prop) : Prop := (∃ Ty, Kn K H x Ty ∧ isInt x = false ∧ RetX C H E) ∨ ∃ z, x = .int z ∧ k z
def AskG (K : PySem.W.Frag) (C : Addr) (n : Nat) (x : V) (H : Hp) (E : XK) (k : Addr → (Nat → Nat) → Prop) : Prop := (GivV K H n x false ∧ RetX C H E) ∨ ∃ c g, x = .ref c ∧ SqL K H c (vn n g) ∧ Pm n g ∧ k c g
def AskP (K : PySem.W.Frag) (C : Addr) (n : Nat) (x : V) (H : Hp) (E : XK) (k : Addr → (Nat → Int) → Prop) : Prop := (RowV K H n x false ∧ RetX C H E) ∨ ∃ p f, x = .ref p ∧ SqL K H p (vl n f) ∧ k p f
theorem vn_vl (n : Nat) (g : Nat → Nat) : vn n g = vl n fun i => ((g i : Nat) : Int) := rfl
theorem giv_good {H : Hp} {c : Addr} {n : Nat} {g : Nat → Nat} (h : SqL K H c (vn n g)) (G : Pm n g) : GivV K H n (.ref c) true := .lst (f := fun i => ((g i : Nat) : Int)) h ⟨fun _ => ⟨g, G, fun _ _ => rfl⟩, fun _ => rfl⟩
/-- asked_table(table), then the rest -/
theorem q_askT {tz : TS} {D : Ends} {σ : L2.St} {H : Hp} {E : XK} {C : Addr} {te : TE} {x : V} {k : Addr → Nat → (Nat → Addr) → (Nat → Nat → Int) → Prop} (h : AskT K C x H E k) (hx : ∀ H1, Ex H H1 → Ev te σ H1 x)
    (q : ∀ t n a M, x = .ref t → Tab K H t n a M → 1 ≤ n → n ≤ 12 → k t n a M → ∀ H1, Ex H H1 → tz D σ H1) : tSeq (tDrop (tCall (spTable K C) [] E (tCons te tNil))) tz D σ H :=
  hx H (Ex.refl H) H (Ex.refl H) _ fun H1 e1 => by
    rcases h with ⟨h1, h2⟩ | ⟨t, n, a, M, rfl, hT, n1, n12, hk⟩
    · exact ⟨x, false, rfl, h1.mono e1, (fun z => nomatch z), fun _ H2 e2 => h2 H2 (e1.trans e2)⟩
    · exact ⟨.ref t, true, rfl, TabV.good (hT.mono e1) n1 n12, fun _ H2 e2 => q t n a M rfl hT n1 n12 hk H2 (e1.trans e2), fun z => nomatch z⟩
theorem q_askR {tz : TS} {D : Ends} {σ : L2.St} {H : Hp} {E : XK} {C : Addr} {te : TE} {x : V} {k : Int → Prop} (h : AskR K C x H E k) {H0 : Hp} (e0 : Ex H H0) (hx : Ev te σ H0 x)
    (q : ∀ z, x = .int z → k z → ∀ H1, Ex H0 H1 → tz D σ H1) : tSeq (tDrop (tCall (spRent K C) [] E (tCons te tNil))) tz D σ H0 :=
  hx H0 (Ex.refl H0) _ fun H1 e1 => by
    rcases h with ⟨Ty, h1, h3, h2⟩ | ⟨z, rfl, hk⟩
    · exact ⟨x, Ty, rfl, h1.mono (e0.trans e1), (fun z => absurd (h3.symm.trans z) (by decide)), fun _ H2 e2 => h2 H2 ((e0.trans e1).trans e2)⟩
    · exact ⟨.int z, "int", rfl, Kn.num z, fun _ H2 e2 => q z rfl hk H2 (e1.trans e2), fun z => nomatch z⟩
theorem q_askG {tz : TS} {D : Ends} {σ : L2.St} {H : Hp} {E : XK} {C : Addr} {te tt : TE} {x : V} {t : Addr} {n : Nat} {fr : Nat → V} {k : Addr → (Nat → Nat) → Prop} (h : AskG K C n x H E k) {H0 : Hp} (e0 : Ex H H0) (ht : Ev tt σ H0 (.ref t)) (hx : Ev te σ H0 x) (hT : SqL K H t (vf n fr)) (hn : n ≤ 12)
    (q : ∀ c g, x = .ref c → SqL K H c (vn n g) → Pm n g → k c g → ∀ H1, Ex H0 H1 → tz D σ H1) : tSeq (tDrop (tCall (spGiving K C) [] E (tCons tt (tCons te tNil)))) tz D σ H0 :=
  ht H0 (Ex.refl H0) _ fun H1 e1 => hx H1 e1 _ fun H2 e2 => by
    have e := (e0.trans e1).trans e2
    rcases h with ⟨h1, h2⟩ | ⟨c, g, rfl, hc, G, hk⟩
    · exact ⟨t, n, fr, x, false, rfl, ex_l e hT, hn, h1.mono e, (fun z => nomatch z), fun _ H3 e3 => h2 H3 (e.trans e3)⟩
    · exact ⟨t, n, fr, .ref c, true, rfl, ex_l e hT, hn, giv_good (ex_l e hc) G, fun _ H3 e3 => q c g rfl hc G hk H3 ((e1.trans e2).trans e3), fun z => nomatch z⟩
theorem q_askP {tz : TS} {D : Ends} {σ : L2.St} {H : Hp} {E : XK} {C : Addr} {te tt : TE} {x : V} {t : Addr} {n : Nat} {fr : Nat → V} {k : Addr → (Nat → Int) → Prop} (h : AskP K C n x H E k) {H0 : Hp} (e0 : Ex H H0) (ht : Ev tt σ H0 (.ref t)) (hx : Ev te σ H0 x) (hT : SqL K H t (vf n fr)) (hn : n ≤ 12)
    (q : ∀ p f, x = .ref p → SqL K H p (vl n f) → k p f → ∀ H1, Ex H0 H1 → tz D σ H1) : tSeq (tDrop (tCall (spPrices K C) [] E (tCons tt (tCons te tNil)))) tz D σ H0 :=
  ht H0 (Ex.refl H0) _ fun H1 e1 => hx H1 e1 _ fun H2 e2 => by
    have e := (e0.trans e1).trans e2
    rcases h with ⟨h1, h2⟩ | ⟨p, f, rfl, hp, hk⟩
    · exact ⟨t, n, fr, x, false, rfl, ex_l e hT, h1.mono e, (fun z => nomatch z), fun _ H3 e3 => h2 H3 (e.trans e3)⟩
    · exact ⟨t, n, fr, .ref p, true, rfl, ex_l e hT, RowV.good (ex_l e hp) (by omega), fun _ H3 e3 => q p f rfl hp hk H3 ((e1.trans e2).trans e3), fun z => nomatch z⟩
/-- fit(table, rent, giving, prices) -/
def spFit (K : PySem.W.Frag) (CT CR CG CP : Addr) : Sp := fun vs H Q E => ∃ x r c p, vs = [x, r, c, p] ∧ AskT K CT x H E fun _ n _ M => AskR K CR r H E fun z => AskG K CG n c H E fun _ g => AskP K CP n p H E fun _ f => ∃ b, (b = true ↔ Fit n M z g f) ∧ RetV (.bl b) H Q
theorem c_fit {CT CR CG CP : Addr} (c_asked_table : Cl P w K mg base 3 "asked_table" (spTable K CT)) (c_asked_rent : Cl P w K mg base 2 "asked_rent" (spRent K CR)) (c_asked_giving : Cl P w K mg base 3 "asked_giving" (spGiving K CG)) (c_asked_prices : Cl P w K mg base 3 "asked_prices" (spPrices K CP))
    (c_are_fit : Cl P w K mg base 1 "are_fit" (spAre K)) {f : Addr} {fd : FuncData} (F : Fun K "fit" "fit" s_fit f fd) (g : mg "fit" = some (.ref f)) (b : Binds K fd P_fit []) : Cl P w K mg base 4 "fit" (spFit K CT CR CG CP) := by
  refine ⟨f, fd, _, (F.okX sc_fit (fun vs H Q E h => ?_) (fun cdv A outer s H vs Q E hr h => ?_)), g, F.kp, b⟩
  · obtain ⟨x, r, c, p, rfl, _⟩ := h
    rfl
  · obtain ⟨x, r, c, p, rfl, h⟩ := h
    refine ⟨_, (pss_cons (ps_expr (pe_k c_asked_table hr (by decide) (passes_call (takes_of rfl rfl rfl rfl) fun _ _ _ _ h => h) (by rfl) (pa_cons (pv 0) pa_nil))) (pss_cons (ps_expr (pe_k c_asked_rent hr (by decide) (passes_call (takes_of rfl rfl rfl rfl) fun _ _ _ _ h => h) (by rfl) (pa_cons (pv 1) pa_nil))) (pss_cons (ps_expr (pe_k c_asked_giving hr (by decide) (passes_call (takes_of rfl rfl rfl rfl) fun _ _ _ _ h => h) (by rfl) (pa_cons (pv 0) (pa_cons (pv 2) pa_nil)))) (pss_cons (ps_expr (pe_k c_asked_prices hr (by decide) (passes_call (takes_of rfl rfl rfl rfl) fun _ _ _ _ h => h) (by rfl) (pa_cons (pv 0) (pa_cons (pv 3) pa_nil)))) (pss_one (ps_ret (pe_k c_are_fit hr (by decide) (passes_call (takes_of rfl rfl rfl rfl) fun _ _ _ _ h => h) (by rfl) (pa_cons (pv 0) (pa_cons (pv 1) (pa_cons (pv 2) (pa_cons (pv 3) pa_nil))))))))))), ?_⟩
    refine q_askT h (fun H1 e => ev_var rfl) fun t n a M ex hT n1 n12 h2 H1 e1 => ?_
    subst ex
    refine q_askR h2 e1 (ev_var rfl) fun z ez h3 H2 e2 => ?_
    subst ez
    refine q_askG h3 (e1.trans e2) (ev_var rfl) (ev_var rfl) hT.rows n12 fun c g ec hc G h4 H3 e3 => ?_
    subst ec
    refine q_askP h4 ((e1.trans e2).trans e3) (ev_var rfl) (ev_var rfl) hT.rows n12 fun p f ep hp h5 H4 e4 => ?_
    subst ep
    obtain ⟨b, hb, q⟩ := h5
    have e := ((e1.trans e2).trans e3).trans e4
    exact s_ret (ev_are (ev_var rfl) (ev_var rfl) (ev_var rfl) (ev_var rfl) (hT.mono e) n1 n12 (ex_l e hc) G.lt (ex_l e hp) hb) fun H5 e5 => q H5 (e.trans e5)
/-- worth(table, giving) -/
def spWorth (K : PySem.W.Frag) (CT CG : Addr) : Sp := fun vs H Q E => ∃ x c, vs = [x, c] ∧ AskT K CT x H E fun _ n _ M => AskG K CG n c H E fun _ g => RetV (.int (Wor n M g)) H Q
theorem c_worth (T : Blt mg) {CT CG : Addr} (c_asked_table : Cl P w K mg base 3 "asked_table" (spTable K CT)) (c_asked_giving : Cl P w K mg base 3 "asked_giving" (spGiving K CG))
    {f : Addr} {fd : FuncData} (F : Fun K "worth" "worth" s_worth f fd) (g : mg "worth" = some (.ref f)) (b : Binds K fd P_worth []) : Cl P w K mg base 4 "worth" (spWorth K CT CG) := by
  refine ⟨f, fd, _, (F.okX sc_worth (fun vs H Q E h => ?_) (fun cdv A outer s H vs Q E hr h => ?_)), g, F.kp, b⟩
  · obtain ⟨x, c, rfl, _⟩ := h
    rfl
  · obtain ⟨x, c, rfl, h⟩ := h
    refine ⟨_, (pss_cons (ps_expr (pe_k c_asked_table hr (by decide) (passes_call (takes_of rfl rfl rfl rfl) fun _ _ _ _ h => h) (by rfl) (pa_cons (pv 0) pa_nil))) (pss_cons (ps_expr (pe_k c_asked_giving hr (by decide) (passes_call (takes_of rfl rfl rfl rfl) fun _ _ _ _ h => h) (by rfl) (pa_cons (pv 0) (pa_cons (pv 1) pa_nil)))) (pss_one (ps_ret (pe_callB (k_sum K) (by rfl) T.sum (by decide +kernel) (pa_cons (pe_lc (own := [("row", 2), ("room", 3)]) rfl sc_worth.nd (pi_zp K (by rfl) T.zip (pa_cons (pv 0) (pa_cons (pv 1) pa_nil))) (blkOk_by (by kernel_rfl)) (fun _ _ _ _ _ => (pg_t K (n := 2) rfl (pgs_cons (pg_name (i := 2) sc_worth.nd rfl (by first | exact Or.inl rfl | exact Or.inr rfl)) (pgs_cons (pg_name (i := 3) sc_worth.nd rfl (by first | exact Or.inl rfl | exact Or.inr rfl)) pgs_nil)))) (fun _ _ _ _ _ => pts_nil) (fun _ _ _ _ _ => (pe_ix (k_ix K) (pv 2) (pv 3) (fun _ _ => rfl)))) pa_nil)))))), ?_⟩
    refine q_askT h (fun H1 e => ev_var rfl) fun t n a M ex hT n1 n12 h2 H1 e1 => ?_
    subst ex
    refine q_askG h2 e1 (ev_var rfl) (ev_var rfl) hT.rows n12 fun c g ec hc G q H2 e2 => ?_
    subst ec
    have e := e1.trans e2
    refine s_ret (ev_sumL (n := n) (f := fun i => M i (g i)) (el_lcZ _ (ea_cons (ev_var rfl) (ea_cons (ev_var rfl) ea_nil)) (ex_l e hT.rows) (ex_l e hc) (by omega) (fun _ _ => rfl) fun i H3 e3 hi => ev_ixl (ev_var rfl) (ev_var rfl) (ex_l (e.trans e3) (hT.row i hi)) (G.lt i hi))) fun H3 e3 => q H3 (e.trans e3)
end
end RW
namespace RW
open PySem PySem.Spec PyProof.Rows L2 Evl RP
section
variable {P : Program} {w : World} {K : PySem.W.Frag} {mg : Str → Option Value} {base : Heap}
/-! ### who has each room; the gaps; a ring that bars -/
def spOwners (K : PySem.W.Frag) : Sp := fun vs H Q _ => ∃ c n g o, vs = [.ref c] ∧ SqL K H c (vn n g) ∧ n ≤ 12 ∧ Pm n g ∧ Own n g o ∧ RetL (vn n o) H Q
theorem c_owners (T : Blt mg) {f : Addr} {fd : FuncData} (F : Fun K "owners" "owners" s_owners f fd) (g : mg "owners" = some (.ref f)) (b : Binds K fd P_owners []) : Cl P w K mg base 1 "owners" (spOwners K) := by
  refine ⟨f, fd, _, fn_lift (F.ok sc_owners (fun vs H Q E h => ?_) (fun cdv A outer s H vs Q E hr h => ?_)), g, F.kp, b⟩
  · obtain ⟨c, n, g, o, rfl, _⟩ := h
    rfl
  · obtain ⟨c, n, g, o, rfl, hc, n12, G, O, q⟩ := h
    refine ⟨_, (pss_cons (ps_set (i := 1) sc_owners.nd rfl (by first | exact Or.inl rfl | exact Or.inr rfl) (pe_op op_rep (pe_lst (pa_cons pe_int pa_nil)) (pe_callB (k_len K) (by rfl) T.len (by decide +kernel) (pa_cons (pv 0) pa_nil)))) (pss_cons (ps_for PassesOwn.never rfl (pi_en K (by rfl) T.enumerate (pa_cons (pv 0) pa_nil)) (pg_t K (n := 2) rfl (pgs_cons (pg_name (i := 2) sc_owners.nd rfl (by first | exact Or.inl rfl | exact Or.inr rfl)) (pgs_cons (pg_name (i := 3) sc_owners.nd rfl (by first | exact Or.inl rfl | exact Or.inr rfl)) pgs_nil))) (pss_one (ps_asg (pv 2) (pg_sub (pv 1) (pv 3) set_list)))) (pss_one (ps_ret (pv 1))))), ?_⟩
    refine q_asgL (el_rep ev_c (ev_lenf (ev_var rfl) hc) (by omega)) fun p H1 np e1 h1 => ?_
    refine q_forE (ea_cons (ev_var rfl) ea_nil) (ex_l e1 hc) (fun i σ' H' => ∃ x2 x3 fo, σ' = [some (.ref c), some (.ref p), x2, x3] ∧ Ex H H' ∧ H' p = some (.lst (vn n fo)) ∧ ∀ k, k < i → fo (g k) = k)
      (fun H2 e2 => ⟨_, _, fun _ => 0, rfl, e1.trans e2, e2 _ _ h1, fun k hk => absurd hk (Nat.not_lt_zero k)⟩) (fun i σ' H' _ ⟨_, _, _, _, e, _⟩ => ex_l e hc) (fun i σ' H' H3 hi hP e3 => ?_) fun σ' H' hP => ?_
    · obtain ⟨x2, x3, fo, rfl, e, h2, h3⟩ := hP
      refine s_setn (e3 _ _ h2) (ev_var rfl) (ev_var rfl) (ev_var rfl) (G.lt i hi) fun H4 e4 => ?_
      refine ⟨_, _, _, rfl, Ex.mut ((e.trans e3).trans e4) np, upd_same, fun k hk => ?_⟩
      by_cases ek : k = i
      · rw [ek, fset_same]
      · rw [fset_ne _ _ fun z => ek (G.inj k i (by omega) hi z)]
        exact h3 k (by omega)
    · obtain ⟨x2, x3, fo, rfl, e, h2, h3⟩ := hP
      refine s_ret (ev_var rfl) fun H4 e4 => q p H4 np (e.trans e4) ?_
      rw [e4 _ _ h2]
      congr 2
      refine vf_congr fun j hj => ?_
      have := h3 (o j) (O.lt j hj)
      rw [O.go j hj] at this
      rw [this]
theorem el_owners {te : TE} {σ : L2.St} {H : Hp} {E : XK} {c : Addr} {n : Nat} {g o : Nat → Nat} (h : Ev te σ H (.ref c)) (hc : SqL K H c (vn n g)) (n12 : n ≤ 12) (G : Pm n g) (O : Own n g o) : EvL (tCall (spOwners K) [] E (tCons te tNil)) σ H (vn n o) :=
  el_call (ea_cons h ea_nil) fun H1 e Q q E => ⟨c, n, g, o, rfl, ex_l e hc, n12, G, O, q⟩
def spGaps (K : PySem.W.Frag) : Sp := fun vs H Q _ => ∃ t n a M c g o, vs = [.ref t, .ref c] ∧ Tab K H t n a M ∧ n ≤ 12 ∧ SqL K H c (vn n g) ∧ Pm n g ∧ Own n g o ∧ RetM n (fun i => vl n (gapw M o i)) H Q
theorem c_gaps (T : Blt mg) (c_owners : Cl P w K mg base 1 "owners" (spOwners K)) {f : Addr} {fd : FuncData} (F : Fun K "gaps" "gaps" s_gaps f fd) (g : mg "gaps" = some (.ref f)) (b : Binds K fd P_gaps []) : Cl P w K mg base 2 "gaps" (spGaps K) := by
  refine ⟨f, fd, _, fn_lift (F.ok sc_gaps (fun vs H Q E h => ?_) (fun cdv A outer s H vs Q E hr h => ?_)), g, F.kp, b⟩
  · obtain ⟨t, n, a, M, c, g, o, rfl, _⟩ := h
    rfl
  · obtain ⟨t, n, a, M, c, g, o, rfl, hT, n12, hc, G, O, q⟩ := h
    refine ⟨_, (pss_cons (ps_set (i := 2) sc_gaps.nd rfl (by first | exact Or.inl rfl | exact Or.inr rfl) (pe_k c_owners hr (by decide) passL (by rfl) (pa_cons (pv 1) pa_nil))) (pss_cons (ps_set (i := 3) sc_gaps.nd rfl (by first | exact Or.inl rfl | exact Or.inr rfl) (pe_listRg rfl (by rfl) T.list_ (prg_1 (by rfl) T.range (pe_callB (k_len K) (by rfl) T.len (by decide +kernel) (pa_cons (pv 0) pa_nil))))) (pss_one (ps_ret (pe_lc (own := [("first", 4)]) rfl sc_gaps.nd (pi_l K (pv 3)) (blkOk_by (by kernel_rfl)) (fun _ _ _ _ _ => (pg_name (i := 4) sc_gaps.nd rfl (by first | exact Or.inl rfl | exact Or.inr rfl))) (fun _ _ _ _ _ => pts_nil) (fun _ _ _ _ _ => (pe_lc (own := [("room", 5)]) rfl sc_gaps.nd (pi_l K (pv 3)) (blkOk_by (by kernel_rfl)) (fun _ _ _ _ _ => (pg_name (i := 5) sc_gaps.nd rfl (by first | exact Or.inl rfl | exact Or.inr rfl))) (fun _ _ _ _ _ => pts_nil) (fun _ _ _ _ _ => (pe_op op_sub (pe_ix (k_ix K) (pe_ix (k_ix K) (pv 0) (pe_ix (k_ix K) (pv 2) (pv 5) (fun _ _ => rfl)) (fun _ _ => rfl)) (pv 5) (fun _ _ => rfl)) (pe_ix (k_ix K) (pe_ix (k_ix K) (pv 0) (pe_ix (k_ix K) (pv 2) (pv 5) (fun _ _ => rfl)) (fun _ _ => rfl)) (pv 4) (fun _ _ => rfl))))))))))), ?_⟩
    refine q_asgL (el_owners (ev_var rfl) hc n12 G O) fun p H1 np e1 h1 => ?_
    refine q_asgL (el_rng (ev_lenf (ev_var rfl) (ex_l e1 hT.rows)) (by omega)) fun p2 H2 np2 e2 h2 => ?_
    have e := e1.trans e2
    refine s_retM (em_lc _ (ev_var rfl) (sq_of h2) (by omega) (fun _ => rfl) fun i H3 e3 hi => el_lc _ (ev_var rfl) (ex_l e3 (sq_of h2)) (by omega) (fun _ => rfl) fun j H4 e4 hj => ?_) fun p3 a3 H3 q1 q2 q3 q4 q5 q6 => q p3 a3 H3 (fresh_back e q1) (e.trans q2) q3 (fun i hi => ⟨fresh_back e (q4 i hi).1, (q4 i hi).2⟩) q5 q6
    have hT4 := hT.mono ((e.trans e3).trans e4)
    have ho : SqL K H4 p (vn n o) := ex_l ((e2.trans e3).trans e4) (sq_of h1)
    exact ev_sub (ev_tab hT4 (ev_var rfl) (ev_ixn (ev_var rfl) (ev_var rfl) ho hj) (ev_var rfl) (O.lt j hj) hj) (ev_tab hT4 (ev_var rfl) (ev_ixn (ev_var rfl) (ev_var rfl) ho hj) (ev_var rfl) (O.lt j hj) hi)
theorem em_gaps {ta tb : TE} {σ : L2.St} {H : Hp} {E : XK} {t c : Addr} {n : Nat} {a : Nat → Addr} {M : Nat → Nat → Int} {g o : Nat → Nat} (h1 : Ev ta σ H (.ref t)) (h2 : Ev tb σ H (.ref c)) (hT : Tab K H t n a M) (n12 : n ≤ 12) (hc : SqL K H c (vn n g)) (G : Pm n g) (O : Own n g o) :
    EvM (tCall (spGaps K) [] E (tCons ta (tCons tb tNil))) σ H n (fun i => vl n (gapw M o i)) := fun H1 e Q q =>
  h1 H1 e _ fun H2 e2 => h2 H2 (e.trans e2) _ fun H3 e3 => ⟨t, n, a, M, c, g, o, rfl, hT.mono ((e.trans e2).trans e3), n12, ex_l ((e.trans e2).trans e3) hc, G, O, fun p3 a3 H4 q1 q2 q3 q4 q5 q6 =>
    q p3 a3 H4 (fresh_back (e2.trans e3) q1) ((e2.trans e3).trans q2) q3 (fun i hi => ⟨fresh_back (e2.trans e3) (q4 i hi).1, (q4 i hi).2⟩) q5 q6⟩
def lastV : Option Nat → V
  | .none => .non
  | .some x => .int (x : Int)
def spBar (K : PySem.W.Frag) : Sp := fun vs H Q _ => ∃ t n a M c g o, vs = [.ref t, .ref c] ∧ Tab K H t n a M ∧ 0 < n ∧ n ≤ 12 ∧ SqL K H c (vn n g) ∧ Pm n g ∧ Own n g o ∧ ((∃ q, Pot n 1 (gapw M o) q) → RetV .non H Q) ∧ ∀ ahead x k, Ringed n (gapw M o) ahead x k → RetL (vn k fun m => itf ahead m x) H Q
theorem c_barring (T : Blt mg) (c_gaps : Cl P w K mg base 2 "gaps" (spGaps K)) {f : Addr} {fd : FuncData} (F : Fun K "barring" "barring" s_barring f fd) (g : mg "barring" = some (.ref f)) (b : Binds K fd P_barring []) : Cl P w K mg base 3 "barring" (spBar K) := by
  refine ⟨f, fd, _, fn_lift (F.ok sc_barring (fun vs H Q E h => ?_) (fun cdv A outer s H vs Q E hr h => ?_)), g, F.kp, b⟩
  · obtain ⟨t, n, a, M, c, g, o, rfl, _⟩ := h
    rfl
  · obtain ⟨t, n, a, M, c, g, o, rfl, hT, n0, n12, hc, G, O, qN, qR⟩ := h
    refine ⟨_, (pss_cons (ps_set (i := 2) sc_barring.nd rfl (by first | exact Or.inl rfl | exact Or.inr rfl) (pe_callB (k_len K) (by rfl) T.len (by decide +kernel) (pa_cons (pv 0) pa_nil))) (pss_cons (ps_set (i := 3) sc_barring.nd rfl (by first | exact Or.inl rfl | exact Or.inr rfl) (pe_k c_gaps hr (by decide) passL (by rfl) (pa_cons (pv 0) (pa_cons (pv 1) pa_nil)))) (pss_cons (ps_set (i := 4) sc_barring.nd rfl (by first | exact Or.inl rfl | exact Or.inr rfl) (pe_op op_rep (pe_lst (pa_cons pe_int pa_nil)) (pv 2))) (pss_cons (ps_set (i := 5) sc_barring.nd rfl (by first | exact Or.inl rfl | exact Or.inr rfl) (pe_op op_rep (pe_lst (pa_cons pe_int pa_nil)) (pv 2))) (pss_cons (ps_set (i := 6) sc_barring.nd rfl (by first | exact Or.inl rfl | exact Or.inr rfl) pe_non) (pss_cons (ps_for PassesOwn.never rfl (pi_range1 (by rfl) T.range (pa_cons (pe_op op_add (pv 2) pe_int) pa_nil)) (pg_name (i := 7) sc_barring.nd rfl (by first | exact Or.inl rfl | exact Or.inr rfl)) (pss_cons (ps_set (i := 6) sc_barring.nd rfl (by first | exact Or.inl rfl | exact Or.inr rfl) pe_non) (pss_one (ps_for PassesOwn.never rfl (pi_range1 (by rfl) T.range (pa_cons (pv 2) pa_nil)) (pg_name (i := 8) sc_barring.nd rfl (by first | exact Or.inl rfl | exact Or.inr rfl)) (pss_one (ps_for PassesOwn.never rfl (pi_range1 (by rfl) T.range (pa_cons (pv 2) pa_nil)) (pg_name (i := 9) sc_barring.nd rfl (by first | exact Or.inl rfl | exact Or.inr rfl)) (pss_one (ps_if (pt_cmpR op_lt (pe_op op_add (pe_ix (k_ix K) (pv 4) (pv 8) (fun _ _ => rfl)) (pe_ix (k_ix K) (pe_ix (k_ix K) (pv 3) (pv 8) (fun _ _ => rfl)) (pv 9) (fun _ _ => rfl))) (pe_ix (k_ix K) (pv 4) (pv 9) (fun _ _ => rfl)) (nomark _)) (pss_cons (ps_asg (pe_op op_add (pe_ix (k_ix K) (pv 4) (pv 8) (fun _ _ => rfl)) (pe_ix (k_ix K) (pe_ix (k_ix K) (pv 3) (pv 8) (fun _ _ => rfl)) (pv 9) (fun _ _ => rfl))) (pg_sub (pv 4) (pv 9) set_list)) (pss_cons (ps_asg (pv 8) (pg_sub (pv 5) (pv 9) set_list)) (pss_one (ps_set (i := 6) sc_barring.nd rfl (by first | exact Or.inl rfl | exact Or.inr rfl) (pv 9))))) pss_nil)))))))) (pss_cons (ps_if (pt_cmpR op_isN (pv 6) pe_non (nomark _)) (pss_one (ps_ret pe_non)) pss_nil) (pss_cons (ps_for PassesOwn.never rfl (pi_range1 (by rfl) T.range (pa_cons (pv 2) pa_nil)) (pg_name (i := 7) sc_barring.nd rfl (by first | exact Or.inl rfl | exact Or.inr rfl)) (pss_one (ps_set (i := 6) sc_barring.nd rfl (by first | exact Or.inl rfl | exact Or.inr rfl) (pe_ix (k_ix K) (pv 5) (pv 6) (fun _ _ => rfl))))) (pss_cons (ps_set (i := 10) sc_barring.nd rfl (by first | exact Or.inl rfl | exact Or.inr rfl) (pe_lst (pa_cons (pv 6) pa_nil))) (pss_cons (ps_while PassesOwn.never (pt_cmpR op_ne (pe_ix (k_ix K) (pv 5) (pe_ix (k_ix K) (pv 10) (pe_un un_neg pe_int) (fun _ _ => rfl)) (fun _ _ => rfl)) (pv 6) (nomark _)) (pss_one (ps_expr (pe_bm PySem.F.plainAttrs_list PySem.F.slot_list_append PySem.F.type_list_append mt_append (pv 10) (pa_cons (pe_ix (k_ix K) (pv 5) (pe_ix (k_ix K) (pv 10) (pe_un un_neg pe_int) (fun _ _ => rfl)) (fun _ _ => rfl)) pa_nil))))) (pss_one (ps_ret (pv 10))))))))))))), ?_⟩
    refine q_asg (ev_lenf (ev_var rfl) hT.rows) fun H1 e1 => ?_
    -- by = gaps(table, giving)
    refine q_asgM (em_gaps (ev_var rfl) (ev_var rfl) (hT.mono e1) n12 (ex_l e1 hc) G O) fun pb ab H2 npb e2 hpb hab iab neb => ?_
    have w0 : ∀ i, i < n → gapw M o i i = 0 := fun i _ => gapw_self i
    have eb := e1.trans e2
    -- far, ahead
    refine q_asgL (el_rep ev_c (ev_var rfl) (by omega)) fun pf H3 npf e3 hpf => ?_
    refine q_asgL (el_rep ev_c (ev_var rfl) (by omega)) fun pa H4 npa e4 hpa => ?_
    have nfa : pf ≠ pa := ne_of_none hpf npa
    have npa2 : H2 pa = none := fresh_back e3 npa
    refine q_asg ev_c fun H5 e5 => ?_
    -- what stands through the search
    refine q_forR (n := n + 1) (ea_cons (ev_addn (ev_var rfl) (ev_cn (i := 1) rfl)) ea_nil) (by omega) (fun i σ' H' => ∃ x7 x8 x9 x10 far ahead last pass tm clock, σ' = [some (.ref t), some (.ref c), some (.int (n : Int)), some (.ref pb), some (.ref pf), some (.ref pa), some (lastV last), x7, x8, x9, x10] ∧ Ex H2 H' ∧
        H' pf = some (.lst (vl n far)) ∧ H' pa = some (.lst (vn n ahead)) ∧ ((i = 0 ∧ BF n (gapw M o) 1 0 0 far ahead .none pass tm clock) ∨ (0 < i ∧ BF n (gapw M o) i n 0 far ahead last pass tm clock)))
      (fun H6 e6 => ⟨_, _, _, _, fun _ => 0, fun _ => 0, .none, _, _, _, rfl, ((e3.trans e4).trans e5).trans e6, e6 _ _ (e5 _ _ (e4 _ _ hpf)), e6 _ _ (e5 _ _ hpa), .inl ⟨rfl, BF.start n0⟩⟩) (fun i σ' H' hi hP => ?_) fun σ' H' hP => ?_
    · -- one turn
      obtain ⟨x7, x8, x9, x10, far, ahead, last, pass, tm, clock, rfl, eH, hf, ha, hB⟩ := hP
      have hB' : BF n (gapw M o) (i + 1) 0 0 far ahead .none pass tm clock := by
        rcases hB with ⟨rfl, hB⟩ | ⟨hi0, hB⟩
        · exact hB
        · exact hB.turn
      refine q_asg ev_c fun H6 e6 => ?_
      refine s_forR (ea_cons (ev_var rfl) ea_nil) (by omega) (fun u σ' H' => ∃ x8 x9 far ahead last pass tm clock, σ' = [some (.ref t), some (.ref c), some (.int (n : Int)), some (.ref pb), some (.ref pf), some (.ref pa), some (lastV last), some (.int (i : Int)), x8, x9, x10] ∧ Ex H2 H' ∧
          H' pf = some (.lst (vl n far)) ∧ H' pa = some (.lst (vn n ahead)) ∧ BF n (gapw M o) (i + 1) u 0 far ahead last pass tm clock)
        (fun H7 e7 => ⟨_, _, far, ahead, .none, _, _, _, rfl, (eH.trans e6).trans e7, e7 _ _ (e6 _ _ hf), e7 _ _ (e6 _ _ ha), hB'⟩) (fun u σ' H' hu hP => ?_) fun σ' H' hP => ?_
      · obtain ⟨x8, x9, far, ahead, last, pass, tm, clock, rfl, eH, hf, ha, hB⟩ := hP
        refine s_forR (ea_cons (ev_var rfl) ea_nil) (by omega) (fun v σ' H' => ∃ x9 far ahead last pass tm clock, σ' = [some (.ref t), some (.ref c), some (.int (n : Int)), some (.ref pb), some (.ref pf), some (.ref pa), some (lastV last), some (.int (i : Int)), some (.int (u : Int)), x9, x10] ∧ Ex H2 H' ∧
            H' pf = some (.lst (vl n far)) ∧ H' pa = some (.lst (vn n ahead)) ∧ BF n (gapw M o) (i + 1) u v far ahead last pass tm clock)
          (fun H7 e7 => ⟨_, far, ahead, last, _, _, _, rfl, eH.trans e7, e7 _ _ hf, e7 _ _ ha, hB⟩) (fun v σ' H' hv hP => ?_) fun σ' H' hP => ?_
        · obtain ⟨x9, far, ahead, last, pass, tm, clock, rfl, eH, hf, ha, hB⟩ := hP
          have hby : ∀ {H''}, Ex H' H'' → Tab K H'' pb n ab (gapw M o) := fun e => ⟨ex_l (eH.trans e) (sq_of hpb), fun i hi => ex_l (eH.trans e) (sq_of (hab i hi).2)⟩
          refine s_when (b := decide (far u + gapw M o u v < far v)) (et_test (ev_lt (ev_add (ev_ixl (ev_var rfl) (ev_var rfl) (sq_of hf) hu) (ev_tab (hby (Ex.refl H')) (ev_var rfl) (ev_var rfl) (ev_var rfl) hu hv)) (ev_ixl (ev_var rfl) (ev_var rfl) (sq_of hf) hv))) (fun hb H7 e7 => ?_) fun hb H7 e7 => ?_
          · have hlt : far u + gapw M o u v < far v := of_decide_eq_true hb
            refine q_setl (e7 _ _ hf) (ev_add (ev_ixl (ev_var rfl) (ev_var rfl) (sq_of (e7 _ _ hf)) hu) (ev_tab (hby e7) (ev_var rfl) (ev_var rfl) (ev_var rfl) hu hv)) (ev_var rfl) (ev_var rfl) hv fun H8 e8 => ?_
            have a8 : upd H8 pf (.lst (vl n (fset far v (far u + gapw M o u v)))) pa = some (.lst (vn n ahead)) := by
              rw [upd_ne nfa.symm]
              exact e8 _ _ (e7 _ _ ha)
            refine q_setn a8 (ev_var rfl) (ev_var rfl) (ev_var rfl) hv fun H9 e9 => ?_
            refine s_asg (ev_var rfl) fun H10 e10 => ?_
            refine ⟨_, _, _, .some v, _, _, _, rfl, (Ex.mut ((Ex.mut ((eH.trans e7).trans e8) npf).trans e9) npa2).trans e10, e10 _ _ ?_, e10 _ _ upd_same, hB.relax hu hv (w0 v hv) hlt⟩
            rw [upd_ne nfa]
            exact e9 _ _ upd_same
          · have hlt : ¬ far u + gapw M o u v < far v := of_decide_eq_false hb
            exact ⟨_, _, _, last, _, _, _, rfl, eH.trans e7, e7 _ _ hf, e7 _ _ ha, hB.skip hlt⟩
        · obtain ⟨x9, far, ahead, last, pass, tm, clock, rfl, eH, hf, ha, hB⟩ := hP
          exact ⟨_, _, _, _, last, _, _, _, rfl, eH, hf, ha, hB.row⟩
      · obtain ⟨x8, x9, far, ahead, last, pass, tm, clock, rfl, eH, hf, ha, hB⟩ := hP
        exact ⟨_, _, _, _, _, _, last, _, _, _, rfl, eH, hf, ha, .inr ⟨by omega, hB⟩⟩
    · -- behind the search
      obtain ⟨x7, x8, x9, x10, far, ahead, last, pass, tm, clock, rfl, eH, hf, ha, hB⟩ := hP
      have hB' : BF n (gapw M o) (n + 1) n 0 far ahead last pass tm clock := by
        rcases hB with ⟨q, _⟩ | ⟨_, hB⟩
        · omega
        · exact hB
      cases last with
      | none =>
        refine q_when (b := true) (et_isNon (ev_var rfl)) (fun _ H6 e6 => s_ret ev_c fun H7 e7 => qN ⟨far, hB'.pot⟩ H7 (((eb.trans eH).trans e6).trans e7)) fun z => nomatch z
      | some x =>
        obtain ⟨k, R⟩ := hB'.ring
        have alt := hB'.alt
        have xlt := (hB'.some x rfl).1
        have ilt : ∀ m, itf ahead m x < n := fun m => by
          induction m with
          | zero => exact xlt
          | succ m ih => exact alt _ ih
        refine q_when (b := false) (et_isInt (i := (x : Int)) (ev_var rfl)) (fun z => nomatch z) fun _ H6 e6 => ?_
        -- for turn in range(size): last = ahead[last]
        refine q_forR (ea_cons (ev_var rfl) ea_nil) (by omega) (fun i σ' H' => ∃ x7, σ' = [some (.ref t), some (.ref c), some (.int (n : Int)), some (.ref pb), some (.ref pf), some (.ref pa), some (.int ((itf ahead i x : Nat) : Int)), x7, x8, x9, x10] ∧ Ex H2 H' ∧ H' pa = some (.lst (vn n ahead)))
          (fun H7 e7 => ⟨_, rfl, (eH.trans e6).trans e7, e7 _ _ (e6 _ _ ha)⟩) (fun i σ' H' hi hP => ?_) fun σ' H' hP => ?_
        · obtain ⟨x7, rfl, eH, ha⟩ := hP
          exact s_asg (ev_ixn (ev_var rfl) (ev_var rfl) (sq_of ha) (ilt i)) fun H7 e7 => ⟨_, rfl, eH.trans e7, e7 _ _ ha⟩
        · obtain ⟨x7, rfl, eH, ha⟩ := hP
          -- found = [last]
          refine q_asgL (el_lst (ea_cons (ev_var rfl) ea_nil) (by show 1 ≤ 100000; decide)) fun pd H7 npd e7 hpd => ?_
          have ha7 := e7 _ _ ha
          refine q_while (fun m σ' H' => ∃ j, σ' = [some (.ref t), some (.ref c), some (.int (n : Int)), some (.ref pb), some (.ref pf), some (.ref pa), some (.int ((itf ahead n x : Nat) : Int)), x7, x8, x9, some (.ref pd)] ∧ 0 < j ∧ j ≤ k ∧ m = k - j ∧ Ex H2 H' ∧ H' pa = some (.lst (vn n ahead)) ∧ H' pd = some (.lst (vn j fun m => itf ahead m (itf ahead n x))))
            (k - 1) ⟨1, rfl, Nat.zero_lt_one, R.pos, rfl, eH.trans e7, ha7, hpd⟩ fun m σ' H' hW => ?_
          obtain ⟨j, rfl, j0, jk, rfl, eH', ha', hd'⟩ := hW
          have hlast : Ev (tOp (rIxL K) (tVar 5) (tOp (rIxL K) (tVar 10) (tUn (rU fun i => .int (-i)) (tC (.int 1))))) [some (.ref t), some (.ref c), some (.int (n : Int)), some (.ref pb), some (.ref pf), some (.ref pa), some (.int ((itf ahead n x : Nat) : Int)), x7, x8, x9, some (.ref pd)] H' (.int ((itf ahead j (itf ahead n x) : Nat) : Int)) := by
            obtain ⟨j', rfl⟩ : ∃ j', j = j' + 1 := ⟨j - 1, by omega⟩
            exact ev_ixn (f := ahead) (i := itf ahead j' (itf ahead n x)) (ev_var rfl) (ev_ix (v := .int ((itf ahead j' (itf ahead n x) : Nat) : Int)) (ev_var rfl) (ev_neg ev_c) (sq_of hd') (at_last (by omega))) (sq_of ha') (R.lt j')
          refine ⟨_, et_test (ev_neI hlast (ev_var rfl)), fun hb H8 e8 => ?_, fun hb H8 e8 => ?_⟩
          · have hne : ¬ itf ahead j (itf ahead n x) = itf ahead n x := fun q => by
              rw [q] at hb
              simp at hb
            have hjk : j < k := by
              refine Nat.lt_of_le_of_ne jk fun q => hne ?_
              rw [q]
              exact R.back
            refine ⟨fun σ2 H2' => ∃ m', m' < k - j ∧ ∃ j, σ2 = [some (.ref t), some (.ref c), some (.int (n : Int)), some (.ref pb), some (.ref pf), some (.ref pa), some (.int ((itf ahead n x : Nat) : Int)), x7, x8, x9, some (.ref pd)] ∧ 0 < j ∧ j ≤ k ∧ m' = k - j ∧ Ex H2 H2' ∧ H2' pa = some (.lst (vn n ahead)) ∧ H2' pd = some (.lst (vn j fun m => itf ahead m (itf ahead n x))), fun σ2 H2' q => q, ?_⟩
            refine s_app (e8 _ _ hd') (ev_var rfl) (hlast.mono e8) (by rw [vf_len]; have := R.le; omega) fun H9 e9 => ?_
            have npd2 : H2 pd = none := fresh_back eH npd
            have nad : pa ≠ pd := ne_of_none ha npd
            refine ⟨k - (j + 1), by omega, j + 1, rfl, by omega, hjk, rfl, Ex.mut ((eH'.trans e8).trans e9) npd2, ?_, ?_⟩
            · rw [upd_ne nad]
              exact e9 _ _ (e8 _ _ ha')
            · rw [upd_same, vn_succ]
          · have he : itf ahead j (itf ahead n x) = itf ahead n x := by
              have : ((itf ahead j (itf ahead n x) : Nat) : Int) = ((itf ahead n x : Nat) : Int) := by simpa using hb
              omega
            have hjk : j = k := Classical.byContradiction fun q => R.first j j0 (by omega) he
            subst hjk
            have npd2 : H2 pd = none := fresh_back eH npd
            exact s_ret (ev_var rfl) fun H9 e9 => qR ahead _ j R pd H9 (fresh_back eb npd2) ((eb.trans eH').trans (e8.trans e9)) (e9 _ _ (e8 _ _ hd'))
end
end RW
namespace RW
open PySem PySem.Spec PyProof.Rows L2 Evl RP
/-! ### answers -/
/-- what the written part says of a class without anything of its own but defs -/
structure Kl (K : PySem.W.Frag) (C : Addr) : Prop where
  cl : Cls K C
  ha : PySem.W.findIn K (.ref C) "__class__" = some (some (.builtin "object.__class__"))
  hn : PySem.W.specialIn K (.builtin "object.__class__") "__get__" = some (some (.builtin "getset_descriptor.__get__"))
  htk : PySem.W.takesIn K (.builtin "object.__class__") = some true
  hm : PySem.W.mroIn K C (.type "object") = some true
theorem Kl.ty {K : PySem.W.Frag} {C a dx : Addr} {H : Hp} {fs : List (Str × V)} (k : Kl K C) (h : H a = some (.ins C dx fs)) : TyX K H (.ref a) (.ref C) := .base (.ins h k.cl k.ha k.hn k.htk k.hm)
/-- an answer with one list, with two -/
def Ob1 (C : Addr) (f : Str) (H : Hp) (p l : Addr) (xs : List V) : Prop := ∃ dx, H p = some (.ins C dx [(f, .ref l)]) ∧ H l = some (.lst xs)
def Ob2 (C : Addr) (H : Hp) (p l m : Addr) (xs ys : List V) : Prop := ∃ dx, H p = some (.ins C dx [("rooms", .ref l), ("prices", .ref m)]) ∧ H l = some (.lst xs) ∧ H m = some (.lst ys)
theorem Ob1.mono {C : Addr} {f : Str} {H H' : Hp} {p l : Addr} {xs : List V} (e : Ex H H') (h : Ob1 C f H p l xs) : Ob1 C f H' p l xs := let ⟨dx, a, b⟩ := h; ⟨dx, e _ _ a, e _ _ b⟩
theorem Ob2.mono {C : Addr} {H H' : Hp} {p l m : Addr} {xs ys : List V} (e : Ex H H') (h : Ob2 C H p l m xs ys) : Ob2 C H' p l m xs ys := let ⟨dx, a, b, c⟩ := h; ⟨dx, e _ _ a, e _ _ b, e _ _ c⟩
def RetO1 (C : Addr) (f : Str) (xs : List V) (H : Hp) (Q : VK) : Prop := ∀ p l H2, H p = none → H l = none → Ex H H2 → Ob1 C f H2 p l xs → Q (.ref p) H2
def RetO2 (C : Addr) (xs ys : List V) (H : Hp) (Q : VK) : Prop := ∀ p l m H2, H p = none → H l = none → H m = none → l ≠ m → Ex H H2 → Ob2 C H2 p l m xs ys → Q (.ref p) H2
theorem RetO1.go {C : Addr} {f : Str} {xs : List V} {H H' : Hp} {Q : VK} (k : RetO1 C f xs H Q) (e : Ex H H') : RetO1 C f xs H' Q := fun p l H2 a b c d => k p l H2 (fresh_back e a) (fresh_back e b) (e.trans c) d
theorem RetO2.go {C : Addr} {xs ys : List V} {H H' : Hp} {Q : VK} (k : RetO2 C xs ys H Q) (e : Ex H H') : RetO2 C xs ys H' Q := fun p l m H2 a b b2 n c d => k p l m H2 (fresh_back e a) (fresh_back e b) (fresh_back e b2) n (e.trans c) d
section
variable {P : Program} {w : World} {K : PySem.W.Frag} {mg : Str → Option Value} {base : Heap}
/-- __init__ of an answer with one list -/
def spInit1 (K : PySem.W.Frag) (C : Addr) (f : Str) : Sp := fun vs H Q _ => ∃ p dx q xs, vs = [.ref p, .ref q] ∧ H p = some (.ins C dx []) ∧ SqL K H q xs ∧ ∀ l H2, H l = none → (∀ b o, b ≠ p → H b = some o → H2 b = some o) → H2 p = some (.ins C dx [(f, .ref l)]) → H2 l = some (.lst xs) → Q .non H2
theorem init1_read {C : Addr} {f : Str} {σ : L2.St} {H : Hp} {D : Ends} {vs : List V} {E : XK} {Q : VK} (cl : Cls K C) (nf : NoAttr K C f) {p dx q : Addr} {xs : List V} (s0 : σ[0]? = some (some (.ref p))) (s1 : σ[1]? = some (some (.ref q))) (h1 : H p = some (.ins C dx [])) (h2 : SqL K H q xs)
    (k : ∀ l H2, H l = none → (∀ b o, b ≠ p → H b = some o → H2 b = some o) → H2 p = some (.ins C dx [(f, .ref l)]) → H2 l = some (.lst xs) → D.nx σ H2) : sFld K (tVar 0) (tCB (rListS K) (tCons (tVar 1) tNil)) f D σ H :=
  el_copy (ev_var s1) h2 H (Ex.refl H) _ fun l H1 nl e1 hl => by
    refine (ev_var s0 : Ev _ σ H1 (.ref p)) H1 (Ex.refl H1) _ fun H2 e2 => ?_
    have hp := e2 _ _ (e1 _ _ h1)
    have hl2 := e2 _ _ hl
    refine ⟨p, C, dx, [], rfl, hp, cl, nf, by show 0 < 1000; decide, k l _ nl (fun b o hb h => ?_) upd_same ?_⟩
    · rw [upd_ne hb]
      exact e2 _ _ (e1 _ _ h)
    · rw [upd_ne (ne_of hl2 hp (by intro z; cases z))]
      exact hl2
theorem m_Priced_init {C : Addr} (T : Blt mg) (cl : Cls K C) (nf : NoAttr K C "prices") (M : Mk K C f) (hm : mg "Priced" = some (.ref C)) {fd : FuncData} (F : Fun K "__init__" "Priced.__init__" s_Priced_init f fd) (b : Binds K fd P_Priced_init []) : Nw P w K mg base 1 "Priced" C (spInit1 K C "prices") := by
  refine ⟨f, fd, _, M, fn_lift (F.ok sc_Priced_init (fun vs H Q E h => ?_) (fun cdv A outer s H vs Q E hr h => ?_)), hm, b⟩
  · obtain ⟨p, dx, q, xs, rfl, _⟩ := h
    rfl
  · obtain ⟨p, dx, q, xs, rfl, h1, h2, k⟩ := h
    refine ⟨_, (pss_one (ps_fld (pv 0) (pe_callTy (k_list K) (by rfl) T.list_ (by decide +kernel) (pa_cons (pv 1) pa_nil)) rfl)), ?_⟩
    exact init1_read (Q := Q) (E := E) (vs := []) cl nf rfl rfl h1 h2 k
theorem m_Ring_init {C : Addr} (T : Blt mg) (cl : Cls K C) (nf : NoAttr K C "people") (M : Mk K C f) (hm : mg "Ring" = some (.ref C)) {fd : FuncData} (F : Fun K "__init__" "Ring.__init__" s_Ring_init f fd) (b : Binds K fd P_Ring_init []) : Nw P w K mg base 1 "Ring" C (spInit1 K C "people") := by
  refine ⟨f, fd, _, M, fn_lift (F.ok sc_Ring_init (fun vs H Q E h => ?_) (fun cdv A outer s H vs Q E hr h => ?_)), hm, b⟩
  · obtain ⟨p, dx, q, xs, rfl, _⟩ := h
    rfl
  · obtain ⟨p, dx, q, xs, rfl, h1, h2, k⟩ := h
    refine ⟨_, (pss_one (ps_fld (pv 0) (pe_callTy (k_list K) (by rfl) T.list_ (by decide +kernel) (pa_cons (pv 1) pa_nil)) rfl)), ?_⟩
    exact init1_read (Q := Q) (E := E) (vs := []) cl nf rfl rfl h1 h2 k
/-- C(xs): a new answer of a copy -/
theorem make1 {te : TE} {σ : L2.St} {H : Hp} {C : Addr} {f : Str} {q : Addr} {xs : List V} {Q : VK} {H1 : Hp} (h : Ev te σ H1 (.ref q)) (hq : SqL K H1 q xs) (k : RetO1 C f xs H1 Q) : tMake C (spInit1 K C f) [] E0 (tCons te tNil) σ H1 Q :=
  h H1 (Ex.refl H1) _ fun H2 e2 x dx nx nd ne => by
    have nqx : ∀ b o, H2 b = some o → (upd (upd H2 dx (.own x)) x (.ins C dx [])) b = some o := fun b o h => by
      rw [upd_ne (ne_of_none h nx), upd_ne (ne_of_none h nd)]
      exact h
    refine ⟨x, dx, q, xs, rfl, upd_same, ex_l (H := H2) nqx (ex_l e2 hq), fun l H3 nl hk hx hl => ⟨rfl, ?_⟩⟩
    have nlx : l ≠ x := fun z => by
      rw [z, upd_same] at nl
      cases nl
    have nld : l ≠ dx := fun z => by
      rw [z, upd_ne ne, upd_same] at nl
      cases nl
    rw [upd_ne nlx, upd_ne nld] at nl
    refine k x l H3 (fresh_back e2 nx) (fresh_back e2 nl) (fun b o hb => ?_) ⟨dx, hx, hl⟩
    have hb2 := e2 _ _ hb
    exact hk b o (ne_of_none hb2 nx) (nqx b o hb2)
/-- .. of a new list -/
theorem make1L {te : TE} {σ : L2.St} {C : Addr} {f : Str} {xs : List V} {Q : VK} {H1 : Hp} (h : EvL te σ H1 xs) (k : RetO1 C f xs H1 Q) : tMake C (spInit1 K C f) [] E0 (tCons te tNil) σ H1 Q :=
  h H1 (Ex.refl H1) _ fun q H2 nq e2 hq x dx nx nd ne => by
    have nqx : ∀ b o, H2 b = some o → (upd (upd H2 dx (.own x)) x (.ins C dx [])) b = some o := fun b o h => by
      rw [upd_ne (ne_of_none h nx), upd_ne (ne_of_none h nd)]
      exact h
    refine ⟨x, dx, q, xs, rfl, upd_same, sq_of (nqx _ _ hq), fun l H3 nl hk hx hl => ⟨rfl, ?_⟩⟩
    have nlx : l ≠ x := fun z => by
      rw [z, upd_same] at nl
      cases nl
    have nld : l ≠ dx := fun z => by
      rw [z, upd_ne ne, upd_same] at nl
      cases nl
    rw [upd_ne nlx, upd_ne nld] at nl
    refine k x l H3 (fresh_back e2 nx) (fresh_back e2 nl) (fun b o hb => ?_) ⟨dx, hx, hl⟩
    have hb2 := e2 _ _ hb
    exact hk b o (ne_of_none hb2 nx) (nqx b o hb2)
/-- Settled.__init__ -/
def spInit2 (K : PySem.W.Frag) (C : Addr) : Sp := fun vs H Q _ => ∃ p dx q xs r ys, vs = [.ref p, .ref q, .ref r] ∧ H p = some (.ins C dx []) ∧ SqL K H q xs ∧ SqL K H r ys ∧
  ∀ l m H2, H l = none → H m = none → l ≠ m → (∀ b o, b ≠ p → H b = some o → H2 b = some o) → H2 p = some (.ins C dx [("rooms", .ref l), ("prices", .ref m)]) → H2 l = some (.lst xs) → H2 m = some (.lst ys) → Q .non H2
theorem sq_but {H H2 : Hp} {p q C dx : Addr} {fs : List (Str × V)} {xs : List V} (hp : H p = some (.ins C dx fs)) (k : ∀ b o, b ≠ p → H b = some o → H2 b = some o) (h : SqL K H q xs) : SqL K H2 q xs := by
  rcases h with (h | ⟨o, h⟩) | h
  · exact .inl (.inl (k _ _ (ne_of h hp (by intro z; cases z)) h))
  · exact .inl (.inr ⟨o, k _ _ (ne_of h hp (by intro z; cases z)) h⟩)
  · exact .inr h
theorem m_Settled_init {C : Addr} (T : Blt mg) (cl : Cls K C) (nr : NoAttr K C "rooms") (np : NoAttr K C "prices") (M : Mk K C f) (hm : mg "Settled" = some (.ref C)) {fd : FuncData} (F : Fun K "__init__" "Settled.__init__" s_Settled_init f fd) (b : Binds K fd P_Settled_init []) :
    Nw P w K mg base 1 "Settled" C (spInit2 K C) := by
  refine ⟨f, fd, _, M, fn_lift (F.ok sc_Settled_init (fun vs H Q E h => ?_) (fun cdv A outer s H vs Q E hr h => ?_)), hm, b⟩
  · obtain ⟨p, dx, q, xs, r, ys, rfl, _⟩ := h
    rfl
  · obtain ⟨p, dx, q, xs, r, ys, rfl, h1, h2, h3, k⟩ := h
    refine ⟨_, (pss_cons (ps_fld (pv 0) (pe_callTy (k_list K) (by rfl) T.list_ (by decide +kernel) (pa_cons (pv 1) pa_nil)) rfl) (pss_one (ps_fld (pv 0) (pe_callTy (k_list K) (by rfl) T.list_ (by decide +kernel) (pa_cons (pv 2) pa_nil)) rfl))), ?_⟩
    show sFld K _ _ _ _ _ _
    refine init1_read (Q := Q) (E := E) (vs := []) cl nr rfl rfl h1 h2 fun l H2 nl k2 hp hl => ?_
    show sFld K (tVar 0) (tCB (rListS K) (tCons (tVar 2) tNil)) "prices" { nx := fun _ H' => Q V.non H', rt := Q } [some (.ref p), some (.ref q), some (.ref r)] H2
    refine el_copy (ev_var rfl) (sq_but h1 k2 h3) H2 (Ex.refl H2) _ fun m H3 nm e3 hm3 => ?_
    refine (ev_var (i := 0) rfl : Ev _ [some (.ref p), some (.ref q), some (.ref r)] H3 (.ref p)) H3 (Ex.refl H3) _ fun H4 e4 => ?_
    have hp4 := e4 _ _ (e3 _ _ hp)
    have hm4 := e4 _ _ hm3
    have hl4 := e4 _ _ (e3 _ _ hl)
    have npm : m ≠ p := ne_of hm4 hp4 (by intro z; cases z)
    have nlp : l ≠ p := ne_of hl4 hp4 (by intro z; cases z)
    have nlm : l ≠ m := fun z => by
      rw [← z, hl] at nm
      cases nm
    have nmH : H m = none := by
      cases e : H m with
      | none => rfl
      | some o =>
        rw [k2 m o npm e] at nm
        cases nm
    refine ⟨p, C, dx, _, rfl, hp4, cl, np, by show 1 < 1000; decide, k l m _ nl nmH nlm (fun b o hb h => ?_) upd_same ?_ ?_⟩
    · rw [upd_ne hb]
      exact e4 _ _ (e3 _ _ (k2 _ _ hb h))
    · rw [upd_ne nlp]
      exact hl4
    · rw [upd_ne npm]
      exact hm4
/-- Settled(xs, ys) -/
theorem make2 {ta : TA} {σ : L2.St} {C : Addr} {Q : VK} {H1 : Hp} (S : List V → List V → Prop) (h : ∀ R : List V → Hp → Prop, (∀ q r xs ys H2, S xs ys → Ex H1 H2 → SqL K H2 q xs → SqL K H2 r ys → R [.ref q, .ref r] H2) → ta σ H1 R) (k : ∀ xs ys, S xs ys → RetO2 C xs ys H1 Q) : tMake C (spInit2 K C) [] E0 ta σ H1 Q :=
  h _ fun q r xs ys H2 hS e2 hq hr x dx nx nd ne => by
    have nqx : ∀ b o, H2 b = some o → (upd (upd H2 dx (.own x)) x (.ins C dx [])) b = some o := fun b o h => by
      rw [upd_ne (ne_of_none h nx), upd_ne (ne_of_none h nd)]
      exact h
    refine ⟨x, dx, q, xs, r, ys, rfl, upd_same, ex_l (H := H2) nqx hq, ex_l (H := H2) nqx hr, fun l m H3 nl nm nlm hk hx hl hm => ⟨rfl, ?_⟩⟩
    have fr : ∀ z, (upd (upd H2 dx (.own x)) x (.ins C dx [])) z = none → H2 z = none := fun z hz => by
      have nzx : z ≠ x := fun y => by
        rw [y, upd_same] at hz
        cases hz
      have nzd : z ≠ dx := fun y => by
        rw [y, upd_ne ne, upd_same] at hz
        cases hz
      rw [upd_ne nzx, upd_ne nzd] at hz
      exact hz
    refine k xs ys hS x l m H3 (fresh_back e2 nx) (fresh_back e2 (fr l nl)) (fresh_back e2 (fr m nm)) nlm (fun b o hb => ?_) ⟨dx, hx, hl, hm⟩
    have hb2 := e2 _ _ hb
    exact hk b o (ne_of_none hb2 nx) (nqx b o hb2)
end
end RW
namespace RW
open PySem PySem.Spec PyProof.Rows L2 Evl RP
section
variable {P : Program} {w : World} {K : PySem.W.Frag} {mg : Str → Option Value} {base : Heap}
/-! ### a ring that bars, or None: by what it is called -/
theorem q_bar {ta tb : TE} {tz : TS} {D : Ends} {σ : L2.St} {H : Hp} {E : XK} {t c : Addr} {i n : Nat} {a : Nat → Addr} {M : Nat → Nat → Int} {g o : Nat → Nat} (h1 : Ev ta σ H (.ref t)) (h2 : Ev tb σ H (.ref c)) (hT : Tab K H t n a M) (n0 : 0 < n) (n12 : n ≤ 12) (hc : SqL K H c (vn n g)) (G : Pm n g) (O : Own n g o)
    (k1 : Can n M g → ∀ H1, Ex H H1 → tz D (σ.set i (some .non)) H1) (k2 : ¬ Can n M g → ∀ ahead x k, Ringed n (gapw M o) ahead x k → ∀ p H1, H p = none → Ex H H1 → H1 p = some (.lst (vn k fun m => itf ahead m x)) → tz D (σ.set i (some (.ref p))) H1) :
    tSeq (tAsg (tCall (spBar K) [] E (tCons ta (tCons tb tNil))) (gName i)) tz D σ H :=
  h1 H (Ex.refl H) _ fun H1 e1 => h2 H1 e1 _ fun H2 e2 => ⟨t, n, a, M, c, g, o, rfl, hT.mono (e1.trans e2), n0, n12, ex_l (e1.trans e2) hc, G, O, fun hp H3 e3 => k1 ((can_iff G O n0).mpr hp) H3 ((e1.trans e2).trans e3),
    fun ahead x k R p H3 np e3 hp => k2 (fun hC => by
      obtain ⟨q, P⟩ := (can_iff G O n0).mp hC
      exact R.bars (by decide) P) ahead x k R p H3 (fresh_back (e1.trans e2) np) ((e1.trans e2).trans e3) hp⟩
theorem et_bar {ta tb : TE} {σ : L2.St} {H : Hp} {E : XK} {t c : Addr} {n : Nat} {a : Nat → Addr} {M : Nat → Nat → Int} {g : Nat → Nat} {b : Bool} (h1 : Ev ta σ H (.ref t)) (h2 : Ev tb σ H (.ref c)) (hT : Tab K H t n a M) (n0 : 0 < n) (n12 : n ≤ 12) (hc : SqL K H c (vn n g)) (G : Pm n g)
    (hb : b = false ↔ Can n M g) : EvT (tTest (tOp (fun x y H Q => y = .non ∧ Q (.bl (!decide (x = .non))) H) (tCall (spBar K) [] E (tCons ta (tCons tb tNil))) (tC .non))) σ H b := fun H0 e Q q =>
  h1 H0 e _ fun H1 e1 => h2 H1 (e.trans e1) _ fun H2 e2 => by
    obtain ⟨o, O⟩ := G.own
    have e3 := (e.trans e1).trans e2
    refine ⟨t, n, a, M, c, g, o, rfl, hT.mono e3, n0, n12, ex_l e3 hc, G, O, fun hp H4 e4 => ⟨rfl, b, ?_, q H4 ((e1.trans e2).trans e4)⟩, fun ahead x k R p H4 np e4 hp => ⟨rfl, b, ?_, q H4 ((e1.trans e2).trans e4)⟩⟩
    · rw [hb.mpr ((can_iff G O n0).mpr hp)]
      rfl
    · cases b with
      | true => rw [decide_eq_false (fun e => nomatch e : ¬ V.ref p = V.non)] <;> rfl
      | false =>
        obtain ⟨q, P⟩ := (can_iff G O n0).mp (hb.mp rfl)
        exact (R.bars (by decide) P).elim
def spBounds (K : PySem.W.Frag) : Sp := fun vs H Q _ => ∃ t n a M c g o, vs = [.ref t, .ref c] ∧ Tab K H t n a M ∧ n ≤ 12 ∧ SqL K H c (vn n g) ∧ Pm n g ∧ Own n g o ∧ (∃ q, Pot n 1 (gapw M o) q) ∧ RetM n (fun i => vl n (fw (gapw M o) n i)) H Q
theorem c_bounds (T : Blt mg) (c_gaps : Cl P w K mg base 2 "gaps" (spGaps K)) {f : Addr} {fd : FuncData} (F : Fun K "bounds" "bounds" s_bounds f fd) (g : mg "bounds" = some (.ref f)) (b : Binds K fd P_bounds []) : Cl P w K mg base 3 "bounds" (spBounds K) := by
  refine ⟨f, fd, _, fn_lift (F.ok sc_bounds (fun vs H Q E h => ?_) (fun cdv A outer s H vs Q E hr h => ?_)), g, F.kp, b⟩
  · obtain ⟨t, n, a, M, c, g, o, rfl, _⟩ := h
    rfl
  · obtain ⟨t, n, a, M, c, g, o, rfl, hT, n12, hc, G, O, ⟨pq, PQ⟩, q⟩ := h
    refine ⟨_, (pss_cons (ps_set (i := 2) sc_bounds.nd rfl (by first | exact Or.inl rfl | exact Or.inr rfl) (pe_k c_gaps hr (by decide) passL (by rfl) (pa_cons (pv 0) (pa_cons (pv 1) pa_nil)))) (pss_cons (ps_set (i := 3) sc_bounds.nd rfl (by first | exact Or.inl rfl | exact Or.inr rfl) (pe_callB (k_len K) (by rfl) T.len (by decide +kernel) (pa_cons (pv 0) pa_nil))) (pss_cons (ps_for PassesOwn.never rfl (pi_range1 (by rfl) T.range (pa_cons (pv 3) pa_nil)) (pg_name (i := 4) sc_bounds.nd rfl (by first | exact Or.inl rfl | exact Or.inr rfl)) (pss_one (ps_for PassesOwn.never rfl (pi_range1 (by rfl) T.range (pa_cons (pv 3) pa_nil)) (pg_name (i := 5) sc_bounds.nd rfl (by first | exact Or.inl rfl | exact Or.inr rfl)) (pss_one (ps_for PassesOwn.never rfl (pi_range1 (by rfl) T.range (pa_cons (pv 3) pa_nil)) (pg_name (i := 6) sc_bounds.nd rfl (by first | exact Or.inl rfl | exact Or.inr rfl)) (pss_one (ps_asg (pe_callB (call_min2 rfl) (by rfl) T.min_ (by decide +kernel) (pa_cons (pe_ix (k_ix K) (pe_ix (k_ix K) (pv 2) (pv 5) (fun _ _ => rfl)) (pv 6) (fun _ _ => rfl)) (pa_cons (pe_op op_add (pe_ix (k_ix K) (pe_ix (k_ix K) (pv 2) (pv 5) (fun _ _ => rfl)) (pv 4) (fun _ _ => rfl)) (pe_ix (k_ix K) (pe_ix (k_ix K) (pv 2) (pv 4) (fun _ _ => rfl)) (pv 6) (fun _ _ => rfl))) pa_nil))) (pg_sub (pe_ix (k_ix K) (pv 2) (pv 5) (fun _ _ => rfl)) (pv 6) set_list)))))))) (pss_one (ps_ret (pv 2)))))), ?_⟩
    have w0 : ∀ i, i < n → gapw M o i i = 0 := fun i _ => gapw_self i
    refine q_asgM (em_gaps (ev_var rfl) (ev_var rfl) hT n12 hc G O) fun pb ab H1 npb e1 hpb hab iab neb => ?_
    refine q_asg (ev_lenf (ev_var rfl) (ex_l e1 hT.rows)) fun H2 e2 => ?_
    refine q_forR (ea_cons (ev_var rfl) ea_nil) (by omega) (fun k σ' H' => ∃ x4 x5 x6 D, σ' = [some (.ref t), some (.ref c), some (.ref pb), some (.int (n : Int)), x4, x5, x6] ∧ Ex H H' ∧ H' pb = some (.lst (vr n ab)) ∧ (∀ i, i < n → H' (ab i) = some (.lst (vl n (D i)))) ∧ FwIn n (gapw M o) k 0 0 D)
      (fun H3 e3 => ⟨_, _, _, gapw M o, rfl, (e1.trans e2).trans e3, e3 _ _ (e2 _ _ hpb), fun i hi => e3 _ _ (e2 _ _ (hab i hi).2), FwIn.start⟩) (fun k σ' H' hk hP => ?_) fun σ' H' hP => ?_
    · obtain ⟨x4, x5, x6, D, rfl, eH, hb, hD, hF⟩ := hP
      refine s_forR (ea_cons (ev_var rfl) ea_nil) (by omega) (fun u σ' H' => ∃ x5 x6 D, σ' = [some (.ref t), some (.ref c), some (.ref pb), some (.int (n : Int)), some (.int (k : Int)), x5, x6] ∧ Ex H H' ∧ H' pb = some (.lst (vr n ab)) ∧ (∀ i, i < n → H' (ab i) = some (.lst (vl n (D i)))) ∧ FwIn n (gapw M o) k u 0 D)
        (fun H3 e3 => ⟨_, _, D, rfl, eH.trans e3, e3 _ _ hb, fun i hi => e3 _ _ (hD i hi), hF⟩) (fun u σ' H' hu hP => ?_) fun σ' H' hP => ?_
      · obtain ⟨x5, x6, D, rfl, eH, hb, hD, hF⟩ := hP
        refine s_forR (ea_cons (ev_var rfl) ea_nil) (by omega) (fun v σ' H' => ∃ x6 D, σ' = [some (.ref t), some (.ref c), some (.ref pb), some (.int (n : Int)), some (.int (k : Int)), some (.int (u : Int)), x6] ∧ Ex H H' ∧ H' pb = some (.lst (vr n ab)) ∧ (∀ i, i < n → H' (ab i) = some (.lst (vl n (D i)))) ∧ FwIn n (gapw M o) k u v D)
          (fun H3 e3 => ⟨_, D, rfl, eH.trans e3, e3 _ _ hb, fun i hi => e3 _ _ (hD i hi), hF⟩) (fun v σ' H' hv hP => ?_) fun σ' H' hP => ?_
        · obtain ⟨x6, D, rfl, eH, hb, hD, hF⟩ := hP
          have hTb : Tab K H' pb n ab D := ⟨sq_of hb, fun i hi => sq_of (hD i hi)⟩
          refine s_setl (hD u hu) (ev_min2 (ev_tab hTb (ev_var rfl) (ev_var rfl) (ev_var rfl) hu hv) (ev_add (ev_tab hTb (ev_var rfl) (ev_var rfl) (ev_var rfl) hu hk) (ev_tab hTb (ev_var rfl) (ev_var rfl) (ev_var rfl) hk hv))) (ev_ixr (ev_var rfl) (ev_var rfl) (sq_of hb) hu) (ev_var rfl) hv fun H3 e3 => ?_
          rw [hF.get PQ w0 hk hu hv]
          refine ⟨_, _, rfl, Ex.mut (eH.trans e3) (hab u hu).1, ?_, fun i hi => ?_, hF.step⟩
          · rw [upd_ne (neb u hu).symm]
            exact e3 _ _ hb
          · by_cases ei : i = u
            · subst ei
              rw [upd_same, if_pos rfl]
            · rw [upd_ne fun z => ei (iab i u hi hu z), if_neg ei]
              exact e3 _ _ (hD i hi)
        · obtain ⟨x6, D, rfl, eH, hb, hD, hF⟩ := hP
          exact ⟨_, _, D, rfl, eH, hb, hD, hF.row⟩
      · obtain ⟨x5, x6, D, rfl, eH, hb, hD, hF⟩ := hP
        exact ⟨_, _, _, D, rfl, eH, hb, hD, hF.turn⟩
    · obtain ⟨x4, x5, x6, D, rfl, eH, hb, hD, hF⟩ := hP
      refine s_ret (ev_var rfl) fun H3 e3 => q pb ab H3 npb (eH.trans e3) (e3 _ _ hb) (fun i hi => ⟨(hab i hi).1, ?_⟩) iab neb
      rw [e3 _ _ (hD i hi)]
      congr 2
      exact vf_congr fun j hj => by rw [hF.done i j hi hj]
theorem em_bounds {ta tb : TE} {σ : L2.St} {H : Hp} {E : XK} {t c : Addr} {n : Nat} {a : Nat → Addr} {M : Nat → Nat → Int} {g o : Nat → Nat} (h1 : Ev ta σ H (.ref t)) (h2 : Ev tb σ H (.ref c)) (hT : Tab K H t n a M) (n12 : n ≤ 12) (hc : SqL K H c (vn n g)) (G : Pm n g) (O : Own n g o) (hp : ∃ q, Pot n 1 (gapw M o) q) :
    EvM (tCall (spBounds K) [] E (tCons ta (tCons tb tNil))) σ H n (fun i => vl n (fw (gapw M o) n i)) := fun H1 e Q q =>
  h1 H1 e _ fun H2 e2 => h2 H2 (e.trans e2) _ fun H3 e3 => ⟨t, n, a, M, c, g, o, rfl, hT.mono ((e.trans e2).trans e3), n12, ex_l ((e.trans e2).trans e3) hc, G, O, hp, fun p3 a3 H4 q1 q2 q3 q4 q5 q6 =>
    q p3 a3 H4 (fresh_back (e2.trans e3) q1) ((e2.trans e3).trans q2) q3 (fun i hi => ⟨fresh_back (e2.trans e3) (q4 i hi).1, (q4 i hi).2⟩) q5 q6⟩
/-! ### told -/
/-- what is told of a table, a rent, a giving -/
def Told (CP CR : Addr) (n : Nat) (M : Nat → Nat → Int) (r : Int) (g : Nat → Nat) (H : Hp) (Q : VK) : Prop := (Can n M g → ∀ f, Fit n M r g f → RetO1 CP "prices" (vl n f) H Q) ∧ (¬ Can n M g → ∀ f k, RingP n M g f k → RetO1 CR "people" (vn k f) H Q)
theorem Told.go {CP CR : Addr} {n : Nat} {M : Nat → Nat → Int} {r : Int} {g : Nat → Nat} {H H' : Hp} {Q : VK} (h : Told CP CR n M r g H Q) (e : Ex H H') : Told CP CR n M r g H' Q := ⟨fun c f F => (h.1 c f F).go e, fun c f k R => (h.2 c f k R).go e⟩
def spToldOf (K : PySem.W.Frag) (CP CR : Addr) : Sp := fun vs H Q _ => ∃ t n a M r c g, vs = [.ref t, .int r, .ref c] ∧ Tab K H t n a M ∧ 0 < n ∧ n ≤ 12 ∧ SqL K H c (vn n g) ∧ Pm n g ∧ Told CP CR n M r g H Q
theorem c_told_of (T : Blt mg) {CP CR : Addr} (c_barring : Cl P w K mg base 3 "barring" (spBar K)) (c_owners : Cl P w K mg base 1 "owners" (spOwners K)) (c_bounds : Cl P w K mg base 3 "bounds" (spBounds K)) (k_Priced : Nw P w K mg base 1 "Priced" CP (spInit1 K CP "prices")) (k_Ring : Nw P w K mg base 1 "Ring" CR (spInit1 K CR "people"))
    {f : Addr} {fd : FuncData} (F : Fun K "told_of" "told_of" s_told_of f fd) (g : mg "told_of" = some (.ref f)) (b : Binds K fd P_told_of []) : Cl P w K mg base 4 "told_of" (spToldOf K CP CR) := by
  refine ⟨f, fd, _, fn_lift (F.ok sc_told_of (fun vs H Q E h => ?_) (fun cdv A outer s H vs Q E hr h => ?_)), g, F.kp, b⟩
  · obtain ⟨t, n, a, M, r, c, g, rfl, _⟩ := h
    rfl
  · obtain ⟨t, n, a, M, r, c, g, rfl, hT, n0, n12, hc, G, qP, qR⟩ := h
    refine ⟨_, (pss_cons (ps_set (i := 3) sc_told_of.nd rfl (by first | exact Or.inl rfl | exact Or.inr rfl) (pe_k c_barring hr (by decide) passL (by rfl) (pa_cons (pv 0) (pa_cons (pv 2) pa_nil)))) (pss_cons (ps_if (pt_cmpR op_notN (pv 3) pe_non (nomark _)) (pss_cons (ps_set (i := 4) sc_told_of.nd rfl (by first | exact Or.inl rfl | exact Or.inr rfl) (pe_k c_owners hr (by decide) passL (by rfl) (pa_cons (pv 2) pa_nil))) (pss_one (ps_ret (pe_nw k_Ring hr (by decide) (by rfl) (pa_cons (pe_lc (own := [("room", 7)]) rfl sc_told_of.nd (pi_l K (pv 3)) (blkOk_by (by kernel_rfl)) (fun _ _ _ _ _ => (pg_name (i := 7) sc_told_of.nd rfl (by first | exact Or.inl rfl | exact Or.inr rfl))) (fun _ _ _ _ _ => pts_nil) (fun _ _ _ _ _ => (pe_ix (k_ix K) (pv 4) (pv 7) (fun _ _ => rfl)))) pa_nil))))) pss_nil) (pss_cons (ps_set (i := 5) sc_told_of.nd rfl (by first | exact Or.inl rfl | exact Or.inr rfl) (pe_ix (k_ix K) (pe_k c_bounds hr (by decide) passL (by rfl) (pa_cons (pv 0) (pa_cons (pv 2) pa_nil))) pe_int (fun _ _ => rfl))) (pss_cons (ps_set (i := 6) sc_told_of.nd rfl (by first | exact Or.inl rfl | exact Or.inr rfl) (pe_op op_sub (pv 1) (pe_callB (k_sum K) (by rfl) T.sum (by decide +kernel) (pa_cons (pv 5) pa_nil)))) (pss_one (ps_ret (pe_nw k_Priced hr (by decide) (by rfl) (pa_cons (pe_lc (own := [("more", 8)]) rfl sc_told_of.nd (pi_l K (pv 5)) (blkOk_by (by kernel_rfl)) (fun _ _ _ _ _ => (pg_name (i := 8) sc_told_of.nd rfl (by first | exact Or.inl rfl | exact Or.inr rfl))) (fun _ _ _ _ _ => pts_nil) (fun _ _ _ _ _ => (pe_op op_add (pv 6) (pe_op op_mulX (pe_callB (k_len K) (by rfl) T.len (by decide +kernel) (pa_cons (pv 0) pa_nil)) (pv 8))))) pa_nil)))))))), ?_⟩
    obtain ⟨o, O⟩ := G.own
    refine q_bar (ev_var rfl) (ev_var rfl) hT n0 n12 hc G O (fun hC H1 e1 => ?_) fun hC ahead x k R p H1 np e1 hp => ?_
    · -- prices
      have hP := (can_iff G O n0).mp hC
      have hP2 := hP
      obtain ⟨pq, PQ⟩ := hP2
      have hD := fw_dist PQ (fun i _ => gapw_self i)
      refine q_when (b := false) (et_notNon (ev_var rfl)) (fun z => nomatch z) fun _ H2 e2 => ?_
      have e12 := e1.trans e2
      refine q_asgL (el_ixM (i := 0) (em_bounds (ev_var rfl) (ev_var rfl) (hT.mono e12) n12 (ex_l e12 hc) G O hP) rfl n0) fun pf H3 npf e3 hpf => ?_
      refine q_asg (ev_sub (ev_var rfl) (ev_sum (ev_var rfl) (sq_of hpf))) fun H4 e4 => ?_
      have e24 := (e12.trans e3).trans e4
      refine make1L (xs := vl n fun j => (r - sumN n (fw (gapw M o) n 0)) + (n : Int) * fw (gapw M o) n 0 j) (el_lc _ (ev_var rfl) (sq_of (e4 _ _ hpf)) (by omega) (fun _ => rfl) fun j H5 e5 hj => ev_add (ev_var rfl) (ev_mul (ev_lenf (ev_var rfl) (ex_l (e24.trans e5) hT.rows)) (ev_var rfl) (mulok_n (by omega)))) ?_
      exact (qP hC _ (pot_fit (hD.from n0) G O)).go e24
    · -- a ring
      refine q_when (b := true) (et_notRef (ev_var rfl)) (fun _ H2 e2 => ?_) fun z => nomatch z
      have e12 := e1.trans e2
      refine q_asgL (el_owners (ev_var rfl) (ex_l e12 hc) n12 G O) fun po H3 npo e3 hpo => ?_
      refine make1L (xs := vn k fun m => o (itf ahead m x)) (el_lc _ (ev_var rfl) (sq_of (e3 _ _ (e2 _ _ hp))) (by have := R.le; omega) (fun _ => rfl) fun j H5 e5 hj => ev_ixn (ev_var rfl) (ev_var rfl) (ex_l e5 (sq_of hpo)) (R.lt j)) ?_
      exact (qR hC _ k (R.people O)).go (e12.trans e3)
theorem told_read {t1 t2 t3 : TE} {σ : L2.St} {H : Hp} {E : XK} {CP CR t c : Addr} {n : Nat} {a : Nat → Addr} {M : Nat → Nat → Int} {r : Int} {g : Nat → Nat} {Q : VK} (h1 : Ev t1 σ H (.ref t)) (h2 : Ev t2 σ H (.int r)) (h3 : Ev t3 σ H (.ref c)) (hT : Tab K H t n a M) (n0 : 0 < n) (n12 : n ≤ 12) (hc : SqL K H c (vn n g)) (G : Pm n g)
    (q : Told CP CR n M r g H Q) : tCall (spToldOf K CP CR) [] E (tCons t1 (tCons t2 (tCons t3 tNil))) σ H Q :=
  h1 H (Ex.refl H) _ fun H1 e1 => h2 H1 e1 _ fun H2 e2 => h3 H2 (e1.trans e2) _ fun H3 e3 => ⟨t, n, a, M, r, c, g, rfl, hT.mono ((e1.trans e2).trans e3), n0, n12, ex_l ((e1.trans e2).trans e3) hc, G, q.go ((e1.trans e2).trans e3)⟩
end
end RW
namespace RW
open PySem PySem.Spec PyProof.Rows L2 Evl RP
section
variable {P : Program} {w : World} {K : PySem.W.Frag} {mg : Str → Option Value} {base : Heap}
/-! ### one more person has a room -/
def spPutIn (K : PySem.W.Frag) : Sp := fun vs H Q _ => ∃ t n a M who pm pt po u v p H0, vs = [.ref t, .int ((who : Nat) : Int), .ref pm, .ref pt, .ref po] ∧ Tab K H0 t n a M ∧ n ≤ 12 ∧ 1 ≤ who ∧ who ≤ n ∧ HI n M who u v p ∧
  Cells H0 H [(pm, .lst (vl (n + 1) u)), (pt, .lst (vl (n + 1) v)), (po, .lst (vn (n + 1) p))] ∧
  ∀ u' v' p' H2, HI n M (who + 1) u' v' p' → Cells H0 H2 [(pm, .lst (vl (n + 1) u')), (pt, .lst (vl (n + 1) v')), (po, .lst (vn (n + 1) p'))] → Q .non H2
/-- the slots, the lists -/
def sgP (t who pm pt po pr pl pa pd here : Nat) (x10 x11 x12 x13 : Option V) : L2.St := [some (.ref t), some (.int (who : Int)), some (.ref pm), some (.ref pt), some (.ref po), some (.ref pr), some (.ref pl), some (.ref pa), some (.ref pd), some (.int (here : Int)), x10, x11, x12, x13]
def clP (n : Nat) (pm pt po pr pl pa pd : Addr) (u v : Nat → Int) (p : Nat → Nat) (mv : Nat → Option Int) (way : Nat → Nat) (ds : List Nat) : List (Addr × HO) :=
  [(pd, .lst (vds ds)), (pa, .lst (vn (n + 1) way)), (pl, .lst (vf (n + 1) fun i => ov (mv i))), (pr, .lst (vn n fun i => i + 1)), (pm, .lst (vl (n + 1) u)), (pt, .lst (vl (n + 1) v)), (po, .lst (vn (n + 1) p))]
theorem cells_tail {H0 H : Hp} {q : Addr × HO} {L : List (Addr × HO)} (c : Cells H0 H (q :: L)) : Cells H0 H L := ⟨c.ex, (List.nodup_cons.mp c.nd).2, fun r h => c.at_ r (List.mem_cons_of_mem _ h), fun r h => c.fr r (List.mem_cons_of_mem _ h)⟩
theorem c_put_in (T : Blt mg) {f : Addr} {fd : FuncData} (F : Fun K "put_in" "put_in" s_put_in f fd) (g : mg "put_in" = some (.ref f)) (b : Binds K fd P_put_in []) : Cl P w K mg base 1 "put_in" (spPutIn K) := by
  refine ⟨f, fd, _, fn_lift (F.ok sc_put_in (fun vs H Q E h => ?_) (fun cdv A outer s H vs Q E hr h => ?_)), g, F.kp, b⟩
  · obtain ⟨t, n, a, M, who, pm, pt, po, u, v, p, H0, rfl, _⟩ := h
    rfl
  · obtain ⟨t, n, a, M, who, pm, pt, po, u0, v0, p0, H0, rfl, hT, n12, w1, wn, hI, hC, q⟩ := h
    refine ⟨_, (pss_cons (ps_set (i := 5) sc_put_in.nd rfl (by first | exact Or.inl rfl | exact Or.inr rfl) (pe_listRg rfl (by rfl) T.list_ (prg_2 (by rfl) T.range pe_int (pe_op op_add (pe_callB (k_len K) (by rfl) T.len (by decide +kernel) (pa_cons (pv 0) pa_nil)) pe_int)))) (pss_cons (ps_set (i := 6) sc_put_in.nd rfl (by first | exact Or.inl rfl | exact Or.inr rfl) (pe_op op_rep (pe_lst (pa_cons pe_non pa_nil)) (pe_op op_add (pe_callB (k_len K) (by rfl) T.len (by decide +kernel) (pa_cons (pv 0) pa_nil)) pe_int))) (pss_cons (ps_set (i := 7) sc_put_in.nd rfl (by first | exact Or.inl rfl | exact Or.inr rfl) (pe_op op_rep (pe_lst (pa_cons pe_int pa_nil)) (pe_op op_add (pe_callB (k_len K) (by rfl) T.len (by decide +kernel) (pa_cons (pv 0) pa_nil)) pe_int))) (pss_cons (ps_set (i := 8) sc_put_in.nd rfl (by first | exact Or.inl rfl | exact Or.inr rfl) (pe_lst (pa_cons pe_int pa_nil))) (pss_cons (ps_asg (pv 1) (pg_sub (pv 4) pe_int set_list)) (pss_cons (ps_set (i := 9) sc_put_in.nd rfl (by first | exact Or.inl rfl | exact Or.inr rfl) pe_int) (pss_cons (ps_while PassesOwn.never (pt_cmpR op_ne (pe_ix (k_ix K) (pv 4) (pv 9) (fun _ _ => rfl)) pe_int (nomark _)) (pss_cons (ps_set (i := 10) sc_put_in.nd rfl (by first | exact Or.inl rfl | exact Or.inr rfl) (pe_ix (k_ix K) (pv 4) (pv 9) (fun _ _ => rfl))) (pss_cons (ps_for PassesOwn.never rfl (pi_l K (pv 5)) (pg_name (i := 11) sc_put_in.nd rfl (by first | exact Or.inl rfl | exact Or.inr rfl)) (pss_cons (ps_set (i := 12) sc_put_in.nd rfl (by first | exact Or.inl rfl | exact Or.inr rfl) (pe_op op_sub (pe_op op_sub (pe_un un_neg (pe_ix (k_ix K) (pe_ix (k_ix K) (pv 0) (pe_op op_sub (pv 10) pe_int) (fun _ _ => rfl)) (pe_op op_sub (pv 11) pe_int) (fun _ _ => rfl))) (pe_ix (k_ix K) (pv 2) (pv 10) (fun _ _ => rfl))) (pe_ix (k_ix K) (pv 3) (pv 11) (fun _ _ => rfl)))) (pss_one (ps_if (PW.pt (pw_and (pt_cmpR (k_notIn K) (pv 11) (pv 8) (by rfl)) (pw_and1 (PW.pt (pw_or (pt_cmpR op_isN (pe_ix (k_ix K) (pv 6) (pv 11) (fun _ _ => rfl)) pe_non (nomark _)) (pw_or1 (pt_cmpR op_lt (pv 12) (pe_ix (k_ix K) (pv 6) (pv 11) (fun _ _ => rfl)) (nomark _)))))))) (pss_cons (ps_asg (pv 12) (pg_sub (pv 6) (pv 11) set_list)) (pss_one (ps_asg (pv 9) (pg_sub (pv 7) (pv 11) set_list)))) pss_nil)))) (pss_cons (ps_set (i := 13) sc_put_in.nd rfl (by first | exact Or.inl rfl | exact Or.inr rfl) (pe_callB (k_min K) (by rfl) T.min_ (by decide +kernel) (pa_cons (pe_lc (own := [("room", 11)]) rfl sc_put_in.nd (pi_l K (pv 5)) (blkOk_by (by kernel_rfl)) (fun _ _ _ _ _ => (pg_name (i := 11) sc_put_in.nd rfl (by first | exact Or.inl rfl | exact Or.inr rfl))) (fun _ _ _ _ _ => (pts_one (pt_cmpR (k_notIn K) (pv 11) (pv 8) (by rfl)))) (fun _ _ _ _ _ => (pe_ix (k_ix K) (pv 6) (pv 11) (fun _ _ => rfl)))) pa_nil))) (pss_cons (ps_for PassesOwn.never rfl (pi_l K (pv 8)) (pg_name (i := 11) sc_put_in.nd rfl (by first | exact Or.inl rfl | exact Or.inr rfl)) (pss_cons (ps_asg (pe_op op_add (pe_ix (k_ix K) (pv 2) (pe_ix (k_ix K) (pv 4) (pv 11) (fun _ _ => rfl)) (fun _ _ => rfl)) (pv 13)) (pg_sub (pv 2) (pe_ix (k_ix K) (pv 4) (pv 11) (fun _ _ => rfl)) set_list)) (pss_one (ps_asg (pe_op op_sub (pe_ix (k_ix K) (pv 3) (pv 11) (fun _ _ => rfl)) (pv 13)) (pg_sub (pv 3) (pv 11) set_list))))) (pss_cons (ps_for PassesOwn.never rfl (pi_l K (pv 5)) (pg_name (i := 11) sc_put_in.nd rfl (by first | exact Or.inl rfl | exact Or.inr rfl)) (pss_one (ps_if (pt_cmpR (k_notIn K) (pv 11) (pv 8) (by rfl)) (pss_one (ps_asg (pe_op op_sub (pe_ix (k_ix K) (pv 6) (pv 11) (fun _ _ => rfl)) (pv 13)) (pg_sub (pv 6) (pv 11) set_list))) pss_nil))) (pss_cons (ps_set (i := 9) sc_put_in.nd rfl (by first | exact Or.inl rfl | exact Or.inr rfl) (pe_ix (k_ix K) (pe_lc (own := [("room", 11)]) rfl sc_put_in.nd (pi_l K (pv 5)) (blkOk_by (by kernel_rfl)) (fun _ _ _ _ _ => (pg_name (i := 11) sc_put_in.nd rfl (by first | exact Or.inl rfl | exact Or.inr rfl))) (fun _ _ _ _ _ => (pts_one (PW.pt (pw_and (pt_cmpR (k_notIn K) (pv 11) (pv 8) (by rfl)) (pw_and1 (pt_cmpR op_eq (pe_ix (k_ix K) (pv 6) (pv 11) (fun _ _ => rfl)) pe_int (nomark _))))))) (fun _ _ _ _ _ => (pv 11))) pe_int (fun _ _ => rfl))) (pss_one (ps_expr (pe_bm PySem.F.plainAttrs_list PySem.F.slot_list_append PySem.F.type_list_append mt_append (pv 8) (pa_cons (pv 9) pa_nil))))))))))) (pss_one (ps_while PassesOwn.never (pt_cmpR op_ne (pv 9) pe_int (nomark _)) (pss_cons (ps_asg (pe_ix (k_ix K) (pv 4) (pe_ix (k_ix K) (pv 7) (pv 9) (fun _ _ => rfl)) (fun _ _ => rfl)) (pg_sub (pv 4) (pv 9) set_list)) (pss_one (ps_set (i := 9) sc_put_in.nd rfl (by first | exact Or.inl rfl | exact Or.inr rfl) (pe_ix (k_ix K) (pv 7) (pv 9) (fun _ _ => rfl)))))))))))))), ?_⟩
    have lenT : ∀ {H'} {σ : L2.St}, Ex H0 H' → σ[0]? = some (some (.ref t)) → Ev (tCB (rLenS K) (tCons (tVar 0) tNil)) σ H' (.int (n : Int)) := fun e h => ev_lenf (ev_var h) (ex_l e hT.rows)
    have len1 : ∀ {H'} {σ : L2.St}, Ex H0 H' → σ[0]? = some (some (.ref t)) → Ev (tOp (rI0 fun i j => .int (i + j)) (tCB (rLenS K) (tCons (tVar 0) tNil)) (tC (.int 1))) σ H' (.int ((n + 1 : Nat) : Int)) := fun e h => ev_addn (lenT e h) (ev_cn rfl)
    -- rooms, least, ahead, done
    refine q_asgL (el_rng1 ev_c (len1 hC.ex rfl) (by omega)) fun pr H1 npr e1 hpr => ?_
    have c1 := hC.new npr e1 hpr
    refine q_asgL (el_rep ev_c (len1 c1.ex rfl) (by omega)) fun pl H2 npl e2 hpl => ?_
    have c2 := c1.new npl e2 (show H2 pl = some (.lst (vf (n + 1) fun i => ov ((fun _ => none : Nat → Option Int) i))) from hpl)
    refine q_asgL (el_rep ev_c (len1 c2.ex rfl) (by omega)) fun pa H3 npa e3 hpa => ?_
    have c3 := c2.new npa e3 (show H3 pa = some (.lst (vn (n + 1) fun _ => 0)) from hpa)
    refine q_asgL (el_lst (ea_cons ev_c ea_nil) (by show 1 ≤ 100000; decide)) fun pd H4 npd e4 hpd => ?_
    have c4 := c3.new npd e4 (show H4 pd = some (.lst (vds [0])) from hpd)
    -- owner[0] = who; here = 0
    refine q_setn (c4.get 6) (ev_var rfl) (ev_var rfl) (ev_cn (i := 0) rfl) (by omega) fun H5 e5 => ?_
    have c5 := c4.set 6 (.lst (vn (n + 1) (fset p0 0 who))) e5
    have PBh := hI.pb w1 wn
    refine q_asg ev_c fun H6 e6 => ?_
    have c6 := c5.mono e6
    generalize hP : fset p0 0 who = Pf at c5 c6 PBh
    -- the search
    refine q_whileM (fun m σ' H' => ∃ ds here u v mv way x10 x11 x12 x13, σ' = sgP t who pm pt po pr pl pa pd here x10 x11 x12 x13 ∧ Cells H0 H' (clP n pm pt po pr pl pa pd u v Pf mv way ds) ∧ TI n M who Pf ds here u v way ∧ (∀ j, 1 ≤ j → j ≤ n → j ∉ ds → Bef M Pf ds here u v mv way j) ∧ m = n + 1 - ds.length)
      n ⟨[0], 0, u0, v0, fun _ => none, fun _ => 0, none, none, none, none, rfl, c6, TI.start hI hP.symm, fun j _ _ _ => .inl ⟨rfl, rfl⟩, rfl⟩ fun m σ' H' hW => ?_
    obtain ⟨ds, here, u, v, mv, way, x10, x11, x12, x13, rfl, hc, hTI, hB, rfl⟩ := hW
    have hereN : here ≤ n := hTI.le here hTI.hereIn
    refine ⟨_, et_test (ev_neI (ev_ixn (ev_var rfl) (ev_var rfl) (sq_of (hc.get 6)) (by omega)) ev_c), fun hb H7 e7 => ?_, fun hb H7 e7 => ?_⟩
    · -- one turn
      have hz : Pf here ≠ 0 := fun z => by
        rw [z] at hb
        simp at hb
      have hrow : 1 ≤ Pf here ∧ Pf here ≤ n := by
        by_cases e : here = 0
        · rw [e, PBh.p0]
          exact ⟨w1, wn⟩
        · have := PBh.pl here (by omega) hereN
          omega
      have dsle := hTI.len
      have more := hTI.more PBh hz
      have hc7 := hc.mono e7
      refine q_asg (ev_ixn (i := here) (ev_var rfl) (ev_var rfl) (sq_of (hc7.get 6)) (by omega)) fun H8 e8 => ?_
      have hc8 := hc7.mono e8
      -- for room in rooms: the look
      refine q_forf (ev_var rfl) (sq_of (hc8.get 3)) (fun i σ' H' => ∃ mv way x11 x12, σ' = sgP t who pm pt po pr pl pa pd here (some (.int ((Pf here : Nat) : Int))) x11 x12 x13 ∧ Cells H0 H' (clP n pm pt po pr pl pa pd u v Pf mv way ds) ∧ TI n M who Pf ds here u v way ∧
          ∀ j, 1 ≤ j → j ≤ n → j ∉ ds → (j ≤ i → Aft M Pf ds u v mv way j) ∧ (i < j → Bef M Pf ds here u v mv way j))
        (fun H9 e9 => ⟨mv, way, x11, x12, rfl, hc8.mono e9, hTI, fun j a b c => ⟨fun z => by omega, fun _ => hB j a b c⟩⟩) (fun i σ' H' hi ⟨mv, way, x11, x12, _, hc, _⟩ => sq_of (hc.get 3)) (fun i σ' H' hi hW => ?_) fun σ' H' hW => ?_
      · obtain ⟨mv, way, x11, x12, rfl, hc, hTI, hJ⟩ := hW
        refine q_asg (v := .int (slk M u v (Pf here) (i + 1))) (ev_sub (ev_sub (ev_neg (ev_tab (hT.mono hc.ex) (ev_var rfl) (ev_subn (ev_var rfl) (ev_cn (i := 1) rfl) hrow.1) (ev_subn (i := i + 1) (ev_var rfl) (ev_cn (i := 1) rfl) (by omega)) (by omega) (by omega))) (ev_ixl (ev_var rfl) (ev_var rfl) (sq_of (hc.get 4)) (by omega))) (ev_ixl (i := i + 1) (ev_var rfl) (ev_var rfl) (sq_of (hc.get 5)) (by omega))) fun H9 e9 => ?_
        have hc9 := hc.mono e9
        by_cases hd : i + 1 ∈ ds
        · -- reached: nothing
          refine s_when (b := false) (et_is (et_and (b := true) (et_test (ev_notIn (i := i + 1) (ds := ds) (ev_var rfl) (ev_var rfl) (sq_of (hc9.get 0)))) fun z => ?_) ?_) (fun z => nomatch z) fun _ H10 e10 => ⟨mv, way, _, _, rfl, hc9.mono e10, hTI, fun j a b c => ⟨fun z => ?_, fun z => (hJ j a b c).2 (by omega)⟩⟩
          · rw [decide_eq_true hd] at z
            cases z
          · rw [decide_eq_true hd]
            rfl
          · by_cases ej : j = i + 1
            · exact absurd (ej ▸ hd) c
            · exact (hJ j a b c).1 (by omega)
        · have hBef := (hJ (i + 1) (by omega) (by omega) hd).2 (by omega)
          have nearer : ∀ (D : Ends) {H10}, Ex H9 H10 → (∀ m, mv (i + 1) = some m → slk M u v (Pf here) (i + 1) < m) →
              (∀ σ2 H2, (∃ mv way x11 x12, σ2 = sgP t who pm pt po pr pl pa pd here (some (.int ((Pf here : Nat) : Int))) x11 x12 x13 ∧ Cells H0 H2 (clP n pm pt po pr pl pa pd u v Pf mv way ds) ∧ TI n M who Pf ds here u v way ∧ ∀ j, 1 ≤ j → j ≤ n → j ∉ ds → (j ≤ i + 1 → Aft M Pf ds u v mv way j) ∧ (i + 1 < j → Bef M Pf ds here u v mv way j)) → D.nx σ2 H2) →
              tSeq (tAsg (tVar 12) (gSub (tVar 6) (tVar 11) rSetL)) (tAsg (tVar 9) (gSub (tVar 7) (tVar 11) rSetL)) D (sgP t who pm pt po pr pl pa pd here (some (.int ((Pf here : Nat) : Int))) (some (.int ((i + 1 : Nat) : Int))) (some (.int (slk M u v (Pf here) (i + 1)))) x13) H10 := fun D {H10} e10 hm hD => by
            have hc10 := hc9.mono e10
            refine q_seto (j := i + 1) (hc10.get 2) (ev_var rfl) (ev_var rfl) (ev_var rfl) (by omega) fun H11 e11 => ?_
            have hc11 := hc10.set 2 (.lst (vf (n + 1) fun k => ov (fset mv (i + 1) (some (slk M u v (Pf here) (i + 1))) k))) e11
            refine s_setn (j := i + 1) (z := here) (hc11.get 1) (ev_var rfl) (ev_var rfl) (ev_var rfl) (by omega) fun H12 e12 => ?_
            have hc12 := hc11.set 1 (.lst (vn (n + 1) (fset way (i + 1) here))) e12
            have hne : ∀ j, j ∈ ds → j ≠ i + 1 := fun j hj z => hd (z ▸ hj)
            refine hD _ _ ⟨_, _, _, _, rfl, hc12, hTI.congr fun j hj => fset_ne _ _ (hne j hj), fun j a b c => ⟨fun z => ?_, fun z => ((hJ j a b c).2 (by omega)).congr (fset_ne _ _ (by omega)) (fset_ne _ _ (by omega))⟩⟩
            by_cases ej : j = i + 1
            · rw [ej]
              exact hBef.near hTI PBh hz (by omega) (by omega) hm
            · exact ((hJ j a b c).1 (by omega)).congr (fset_ne _ _ ej) (fset_ne _ _ ej)
          cases em : mv (i + 1) with
          | none =>
            have hN : Ev (tOp (rIxL K) (tVar 6) (tVar 11)) (sgP t who pm pt po pr pl pa pd here (some (.int ((Pf here : Nat) : Int))) (some (.int ((i + 1 : Nat) : Int))) (some (.int (slk M u v (Pf here) (i + 1)))) x13) H9 .non := ev_is (ev_ixo (i := i + 1) (ev_var rfl) (ev_var rfl) (sq_of (hc9.get 2)) (by omega)) (by rw [em]; rfl)
            refine s_when (b := true) (et_is (et_and (b := true) (et_test (ev_notIn (i := i + 1) (ds := ds) (ev_var rfl) (ev_var rfl) (sq_of (hc9.get 0)))) fun _ => et_or (a := true) (b := true) (et_isNon hN) fun z => nomatch z) ?_) (fun _ H10 e10 => nearer _ e10 (fun m hm => by rw [em] at hm; cases hm) fun _ _ q => q) fun z => nomatch z
            rw [decide_eq_false hd]
            rfl
          | some m =>
            have hN : Ev (tOp (rIxL K) (tVar 6) (tVar 11)) (sgP t who pm pt po pr pl pa pd here (some (.int ((Pf here : Nat) : Int))) (some (.int ((i + 1 : Nat) : Int))) (some (.int (slk M u v (Pf here) (i + 1)))) x13) H9 (.int m) := ev_is (ev_ixo (i := i + 1) (ev_var rfl) (ev_var rfl) (sq_of (hc9.get 2)) (by omega)) (by rw [em]; rfl)
            refine s_when (b := decide (slk M u v (Pf here) (i + 1) < m)) (et_is (et_and (et_test (ev_notIn (i := i + 1) (ds := ds) (ev_var rfl) (ev_var rfl) (sq_of (hc9.get 0)))) fun _ => et_or (a := false) (et_isInt hN) fun _ => et_test (ev_lt (ev_var rfl) hN)) ?_) (fun hb H10 e10 => nearer _ e10 (fun m' hm => ?_) fun _ _ q => q) fun hb H10 e10 => ?_
            · rw [decide_eq_false hd]
              rfl
            · rw [em] at hm
              cases hm
              exact of_decide_eq_true hb
            · have hge : ¬ slk M u v (Pf here) (i + 1) < m := of_decide_eq_false hb
              refine ⟨mv, way, _, _, rfl, hc9.mono e10, hTI, fun j a b c => ⟨fun z => ?_, fun z => (hJ j a b c).2 (by omega)⟩⟩
              by_cases ej : j = i + 1
              · rw [ej]
                exact hBef.stay em (by omega)
              · exact (hJ j a b c).1 (by omega)
      · obtain ⟨mv, way, x11, x12, rfl, hc, hTI, hJ⟩ := hW
        have hA : ∀ j, 1 ≤ j → j ≤ n → j ∉ ds → Aft M Pf ds u v mv way j := fun j a b c => (hJ j a b c).1 b
        have hsome : ∀ j, 1 ≤ j → j ≤ n → j ∉ ds → ∃ m, mv j = some m := fun j a b c => let ⟨m, e, _⟩ := hA j a b c; ⟨m, e⟩
        -- by = min([..])
        refine q_minG (n := n) (f := fun i => !decide (i + 1 ∈ ds)) (z := fun i => (mv (i + 1)).getD 0) (by
          rw [given_congr (v := fun i => V.int ((mv (i + 1)).getD 0)) (w := fun i => ov (mv (i + 1))) fun i hi hb => ?_]
          · exact el_lcG _ _ (ev_var rfl) (sq_of (hc.get 3)) (by omega) (fun _ => rfl) (fun i H9 e9 hi => et_test (ev_notIn (i := i + 1) (ds := ds) (ev_var rfl) (ev_var rfl) (sq_of (e9 _ _ (hc.get 0))))) fun i H9 e9 hi _ => ev_ixo (i := i + 1) (ev_var rfl) (ev_var rfl) (sq_of (e9 _ _ (hc.get 2))) (by omega)
          · obtain ⟨m, em⟩ := hsome (i + 1) (by omega) (by omega) (by simpa using hb)
            show V.int ((mv (i + 1)).getD 0) = ov (mv (i + 1))
            rw [em]
            rfl) (by
          obtain ⟨j, a, b, c⟩ := more
          refine ⟨j - 1, by omega, ?_⟩
          rw [show j - 1 + 1 = j by omega, decide_eq_false c]
          rfl) fun by_ hat hmin H9 e9 => ?_
        have hc9 := hc.mono e9
        have hat' : ∃ j, 1 ≤ j ∧ j ≤ n ∧ j ∉ ds ∧ mv j = some by_ := by
          obtain ⟨i, hi, hb, e⟩ := hat
          have hd : i + 1 ∉ ds := by simpa using hb
          obtain ⟨m, em⟩ := hsome (i + 1) (by omega) (by omega) hd
          have e : (mv (i + 1)).getD 0 = by_ := e
          rw [em] at e
          exact ⟨i + 1, by omega, by omega, hd, by rw [em]; exact congrArg some e⟩
        have hmin' : ∀ j m, 1 ≤ j → j ≤ n → j ∉ ds → mv j = some m → by_ ≤ m := fun j m a b c e => by
          have h := hmin (j - 1) (by omega) (by rw [show j - 1 + 1 = j by omega, decide_eq_false c]; rfl)
          have h : by_ ≤ (mv (j - 1 + 1)).getD 0 := h
          rw [show j - 1 + 1 = j by omega, e] at h
          exact h
        have nz := hTI.nz hz
        have Ple : ∀ j, j ∈ ds → Pf j ≤ n := fun j hj => by
          by_cases e : j = 0
          · rw [e, PBh.p0]
            exact wn
          · have := PBh.pl j (by omega) (hTI.le j hj)
            omega
        -- for room in done
        refine q_forL (xs := vds ds) (ev_var rfl) (sq_of (hc9.get 0)) (fun i σ' H' => ∃ x11, σ' = sgP t who pm pt po pr pl pa pd here (some (.int ((Pf here : Nat) : Int))) x11 x12 (some (.int by_)) ∧ Cells H0 H' (clP n pm pt po pr pl pa pd (uAdd Pf (ds.take i) by_ u) (vSub (ds.take i) by_ v) Pf mv way ds))
          (fun H10 e10 => ⟨_, rfl, by rw [List.take_zero, uAdd_nil, vSub_nil]; exact hc9.mono e10⟩) (fun i σ' H' hi ⟨_, _, hc⟩ => sq_of (hc.get 0)) (fun i x σ' H' hi hW => ?_) fun σ' H' hW => ?_
        · obtain ⟨x11, rfl, hc⟩ := hW
          obtain ⟨j, hj, rfl⟩ : ∃ j, ds[i]? = some j ∧ x = V.int (j : Int) := by
            unfold vds at hi
            rw [List.getElem?_map] at hi
            cases e : ds[i]? with
            | none =>
              rw [e] at hi
              cases hi
            | some j =>
              rw [e] at hi
              exact ⟨j, rfl, (Option.some.inj hi).symm⟩
          have hjd : j ∈ ds := List.mem_of_getElem? hj
          have hjn := hTI.le j hjd
          have hPn := Ple j hjd
          have nin : j ∉ ds.take i := fun hm => by
            obtain ⟨k, hk⟩ := List.getElem?_of_mem hm
            have hki : k < i := by
              have := (List.getElem?_eq_some_iff.mp hk).1
              rw [List.length_take] at this
              omega
            rw [List.getElem?_take, if_pos hki] at hk
            have := nd_ix hTI.nd hk hj
            omega
          have nP : Pf j ∉ (ds.take i).map Pf := fun hm => by
            obtain ⟨k, hk, e⟩ := List.mem_map.mp hm
            have hkd : k ∈ ds := List.mem_of_mem_take hk
            have := PBh.inj k j (hTI.le k hkd) hjn e (nz k hkd)
            exact nin (this ▸ hk)
          have tk : ds.take (i + 1) = ds.take i ++ [j] := by
            rw [List.take_add_one, hj]
            rfl
          show tSeq _ _ _ (sgP t who pm pt po pr pl pa pd here (some (.int ((Pf here : Nat) : Int))) (some (.int (j : Int))) x12 (some (.int by_))) H'
          have ho : ∀ {H''}, Ex H' H'' → Ev (tOp (rIxL K) (tVar 4) (tVar 11)) (sgP t who pm pt po pr pl pa pd here (some (.int ((Pf here : Nat) : Int))) (some (.int (j : Int))) x12 (some (.int by_))) H'' (.int ((Pf j : Nat) : Int)) := fun e => ev_ixn (ev_var rfl) (ev_var rfl) (sq_of (e _ _ (hc.get 6))) (by omega)
          refine q_setl (hc.get 4) (ev_add (ev_ixl (ev_var rfl) (ho (Ex.refl H')) (sq_of (hc.get 4)) (by omega)) (ev_var rfl)) (ev_var rfl) (ho (Ex.refl H')) (by omega) fun H10 e10 => ?_
          have hc10 := hc.set 4 (.lst (vl (n + 1) (fset (uAdd Pf (ds.take i) by_ u) (Pf j) (uAdd Pf (ds.take i) by_ u (Pf j) + by_)))) e10
          refine s_setl (hc10.get 5) (ev_sub (ev_ixl (ev_var rfl) (ev_var rfl) (sq_of (hc10.get 5)) (by omega)) (ev_var rfl)) (ev_var rfl) (ev_var rfl) (by omega) fun H11 e11 => ?_
          have hc11 := hc10.set 5 (.lst (vl (n + 1) (fset (vSub (ds.take i) by_ v) j (vSub (ds.take i) by_ v j - by_)))) e11
          refine ⟨_, rfl, ?_⟩
          rw [tk, ← uAdd_snoc nP, ← vSub_snoc nin]
          exact hc11
        · obtain ⟨x11, rfl, hc⟩ := hW
          rw [show (vds ds).length = ds.length from List.length_map _, List.take_length] at hc
          -- for room in rooms: least less by
          refine q_forf (ev_var rfl) (sq_of (hc.get 3)) (fun i σ' H' => ∃ x11 mv', σ' = sgP t who pm pt po pr pl pa pd here (some (.int ((Pf here : Nat) : Int))) x11 x12 (some (.int by_)) ∧ Cells H0 H' (clP n pm pt po pr pl pa pd (uAdd Pf ds by_ u) (vSub ds by_ v) Pf mv' way ds) ∧ ∀ j, j ≤ n → mv' j = if 1 ≤ j ∧ j ≤ i then mvSub ds by_ mv j else mv j)
            (fun H10 e10 => ⟨_, mv, rfl, hc.mono e10, fun j _ => by rw [if_neg (by omega)]⟩) (fun i σ' H' hi ⟨_, _, _, hc, _⟩ => sq_of (hc.get 3)) (fun i σ' H' hi hW => ?_) fun σ' H' hW => ?_
          · obtain ⟨x11, mv', rfl, hc, hmv⟩ := hW
            show tIfS _ _ _ _ (sgP t who pm pt po pr pl pa pd here (some (.int ((Pf here : Nat) : Int))) (some (.int ((i + 1 : Nat) : Int))) x12 (some (.int by_))) H'
            refine s_when (et_test (ev_notIn (i := i + 1) (ds := ds) (ev_var rfl) (ev_var rfl) (sq_of (hc.get 0)))) (fun hb H10 e10 => ?_) fun hb H10 e10 => ?_
            · have hd : i + 1 ∉ ds := by simpa using hb
              have hc10 := hc.mono e10
              obtain ⟨m, em⟩ := hsome (i + 1) (by omega) (by omega) hd
              have em' : mv' (i + 1) = some m := by rw [hmv (i + 1) (by omega), if_neg (by omega), em]
              refine s_seto (j := i + 1) (z := m - by_) (hc10.get 2) (ev_sub (ev_is (ev_ixo (i := i + 1) (ev_var rfl) (ev_var rfl) (sq_of (hc10.get 2)) (by omega)) (by rw [em']; rfl)) (ev_var rfl)) (ev_var rfl) (ev_var rfl) (by omega) fun H11 e11 => ?_
              refine ⟨_, _, rfl, hc10.set 2 (.lst (vf (n + 1) fun k => ov (fset mv' (i + 1) (some (m - by_)) k))) e11, fun j hj => ?_⟩
              by_cases ej : j = i + 1
              · rw [ej, fset_same, if_pos (by omega)]
                unfold mvSub
                rw [if_neg hd, em]
                rfl
              · rw [fset_ne _ _ ej, hmv j hj]
                by_cases h : 1 ≤ j ∧ j ≤ i
                · rw [if_pos h, if_pos (by omega)]
                · rw [if_neg h, if_neg (by omega)]
            · have hd : i + 1 ∈ ds := by simpa using hb
              refine ⟨_, _, rfl, hc.mono e10, fun j hj => ?_⟩
              rw [hmv j hj]
              by_cases ej : j = i + 1
              · rw [ej, if_neg (by omega), if_pos (by omega)]
                unfold mvSub
                rw [if_pos hd]
              · by_cases h : 1 ≤ j ∧ j ≤ i
                · rw [if_pos h, if_pos (by omega)]
                · rw [if_neg h, if_neg (by omega)]
          · obtain ⟨x11, mv', rfl, hc, hmv⟩ := hW
            have hmv' : ∀ j, 1 ≤ j → j ≤ n → mv' j = mvSub ds by_ mv j := fun j a b => by rw [hmv j b, if_pos ⟨a, b⟩]
            have hsub : ∀ j, j ∉ ds → ∀ m, mv j = some m → mvSub ds by_ mv j = some (m - by_) := fun j c m e => by
              unfold mvSub
              rw [if_neg c, e]
              rfl
            -- here = [..][0]
            obtain ⟨i, hi, hbi, hat0⟩ := given_head (n := n) (f := fun i => !decide (i + 1 ∈ ds) && decide (mv' (i + 1) = some 0)) (v := fun i => V.int ((i + 1 : Nat) : Int)) (by
              obtain ⟨j, a, b, c, e⟩ := hat'
              refine ⟨j - 1, by omega, ?_⟩
              rw [show j - 1 + 1 = j by omega, decide_eq_false c, hmv' j a b, hsub j c _ e, decide_eq_true (by rw [Int.sub_self])]
              rfl)
            rw [Bool.and_eq_true, decide_eq_true_iff] at hbi
            have hd : i + 1 ∉ ds := by simpa using hbi.1
            have kmv : mv (i + 1) = some by_ := by
              obtain ⟨m, em⟩ := hsome (i + 1) (by omega) (by omega) hd
              have h := hbi.2
              rw [hmv' (i + 1) (by omega) (by omega), hsub _ hd m em] at h
              have : m - by_ = 0 := Option.some.inj h
              rw [em, show m = by_ by omega]
            refine q_asg (v := .int ((i + 1 : Nat) : Int)) (ev_ixN (el_lcG (fun i => !decide (i + 1 ∈ ds) && decide (mv' (i + 1) = some 0)) (fun i => V.int ((i + 1 : Nat) : Int)) (ev_var rfl) (sq_of (hc.get 3)) (by omega) (fun _ => rfl) (fun i H10 e10 hi => et_and (et_test (ev_notIn (i := i + 1) (ds := ds) (ev_var rfl) (ev_var rfl) (sq_of (e10 _ _ (hc.get 0))))) fun hb => ?_) fun i H10 e10 hi _ => ev_var rfl) (fun _ _ => ev_c) hat0) fun H10 e10 => ?_
            · have hd : i + 1 ∉ ds := by simpa using hb
              obtain ⟨m, em⟩ := hsome (i + 1) (by omega) (by omega) hd
              have em' : mv' (i + 1) = some (m - by_) := by rw [hmv' (i + 1) (by omega) (by omega), hsub _ hd m em]
              refine et_is (et_test (ev_eqI (ev_is (ev_ixo (i := i + 1) (ev_var rfl) (ev_var rfl) (sq_of (e10 _ _ (hc.get 2))) (by omega)) (show ov (mv' (i + 1)) = .int (m - by_) by rw [em']; rfl)) ev_c)) ?_
              rw [em']
              exact decide_eq_decide.mpr ⟨fun e => by rw [e], fun e => Option.some.inj e⟩
            -- done.append(here)
            obtain ⟨hTI', hB'⟩ := hTI.next PBh hz hA hmin' hat' (by omega) (by omega) hd kmv
            have hc10 := hc.mono e10
            refine s_app (hc10.get 0) (ev_var rfl) (ev_var rfl) (by
              rw [show (vds ds).length = ds.length from List.length_map _]
              omega) fun H11 e11 => ?_
            have hc11 := hc10.set 0 (.lst (vds ds ++ [.int ((i + 1 : Nat) : Int)])) e11
            refine ⟨n + 1 - (ds ++ [i + 1]).length, ?_, ds ++ [i + 1], i + 1, _, _, mv', way, _, _, _, _, rfl, ?_, hTI', fun j a b c => (hB' j a b c).congr (hmv' j a b) rfl, rfl⟩
            · have := hTI'.len
              rw [List.length_append, List.length_singleton] at this ⊢
              omega
            · have e : vds (ds ++ [i + 1]) = vds ds ++ [.int ((i + 1 : Nat) : Int)] := by
                unfold vds
                rw [List.map_append]
                rfl
              unfold clP
              rw [e]
              exact hc11
    · -- the way back
      have hz : Pf here = 0 := by
        have h : decide (((Pf here : Nat) : Int) = 0) = true := by simpa using hb
        have := of_decide_eq_true h
        omega
      have h2 : 2 ≤ ds.length := by
        refine Classical.byContradiction fun hlt => ?_
        have := hTI.pos
        obtain ⟨_, e⟩ := hTI.one (by omega)
        rw [e, PBh.p0] at hz
        omega
      have hc7 := hc.mono e7
      refine s_whileM (fun m σ' H' => ∃ c p', σ' = sgP t who pm pt po pr pl pa pd c x10 x11 x12 x13 ∧ Cells H0 H' (clP n pm pt po pr pl pa pd u v p' mv way ds) ∧ AI n M who Pf ds u v way m c p')
        _ ⟨here, Pf, rfl, hc7, AI.start hTI PBh hz⟩ fun m σ' H' hW => ?_
      obtain ⟨c, p', rfl, hc', hAI⟩ := hW
      have hcn : c ≤ n := hTI.le c (List.mem_of_getElem? hAI.at_)
      refine ⟨_, et_test (ev_neI (ev_var rfl) ev_c), fun hb H8 e8 => ?_, fun hb H8 e8 => ?_⟩
      · have hc0 : c ≠ 0 := fun z => by
          rw [z] at hb
          simp at hb
        obtain ⟨m', hm', hAI'⟩ := hAI.step hTI PBh hc0
        have hwn : way c ≤ n := hTI.le _ (List.mem_of_getElem? hAI'.at_)
        have hc8 := hc'.mono e8
        refine q_setn (hc8.get 6) (ev_ixn (ev_var rfl) (ev_ixn (ev_var rfl) (ev_var rfl) (sq_of (hc8.get 1)) (by omega)) (sq_of (hc8.get 6)) (by omega)) (ev_var rfl) (ev_var rfl) (by omega) fun H9 e9 => ?_
        have hc9 := hc8.set 6 (.lst (vn (n + 1) (fset p' c (p' (way c))))) e9
        refine s_asg (ev_ixn (ev_var rfl) (ev_var rfl) (sq_of (hc9.get 1)) (by omega)) fun H10 e10 => ?_
        exact ⟨m', hm', way c, _, rfl, hc9.mono e10, hAI'⟩
      · have hc0 : c = 0 := by
          have h : decide ((c : Int) = 0) = true := by simpa using hb
          have := of_decide_eq_true h
          omega
        subst hc0
        have hc8 := hc'.mono e8
        exact q u v p' H8 (hAI.done hTI h2) (cells_tail (cells_tail (cells_tail (cells_tail hc8))))
end
end RW
namespace RW
open PySem PySem.Spec PyProof.Rows L2 Evl RP
section
variable {P : Program} {w : World} {K : PySem.W.Frag} {mg : Str → Option Value} {base : Heap}
/-! ### a giving that is worth most -/
def spBest (K : PySem.W.Frag) : Sp := fun vs H Q _ => ∃ t n a M, vs = [.ref t] ∧ Tab K H t n a M ∧ 0 < n ∧ n ≤ 12 ∧ ∀ g, Pm n g → Can n M g → RetL (vn n g) H Q
theorem c_best (T : Blt mg) (c_put_in : Cl P w K mg base 1 "put_in" (spPutIn K)) {f : Addr} {fd : FuncData} (F : Fun K "best" "best" s_best f fd) (g : mg "best" = some (.ref f)) (b : Binds K fd P_best []) : Cl P w K mg base 2 "best" (spBest K) := by
  refine ⟨f, fd, _, fn_lift (F.ok sc_best (fun vs H Q E h => ?_) (fun cdv A outer s H vs Q E hr h => ?_)), g, F.kp, b⟩
  · obtain ⟨t, n, a, M, rfl, _⟩ := h
    rfl
  · obtain ⟨t, n, a, M, rfl, hT, n0, n12, q⟩ := h
    refine ⟨_, (pss_cons (ps_set (i := 1) sc_best.nd rfl (by first | exact Or.inl rfl | exact Or.inr rfl) (pe_callB (k_len K) (by rfl) T.len (by decide +kernel) (pa_cons (pv 0) pa_nil))) (pss_cons (ps_set (i := 2) sc_best.nd rfl (by first | exact Or.inl rfl | exact Or.inr rfl) (pe_op op_rep (pe_lst (pa_cons pe_int pa_nil)) (pe_op op_add (pv 1) pe_int))) (pss_cons (ps_set (i := 3) sc_best.nd rfl (by first | exact Or.inl rfl | exact Or.inr rfl) (pe_op op_rep (pe_lst (pa_cons pe_int pa_nil)) (pe_op op_add (pv 1) pe_int))) (pss_cons (ps_set (i := 4) sc_best.nd rfl (by first | exact Or.inl rfl | exact Or.inr rfl) (pe_op op_rep (pe_lst (pa_cons pe_int pa_nil)) (pe_op op_add (pv 1) pe_int))) (pss_cons (ps_for PassesOwn.never rfl (pi_range2 (by rfl) T.range (pa_cons pe_int (pa_cons (pe_op op_add (pv 1) pe_int) pa_nil))) (pg_name (i := 5) sc_best.nd rfl (by first | exact Or.inl rfl | exact Or.inr rfl)) (pss_one (ps_expr (pe_k c_put_in hr (by decide) passL (by rfl) (pa_cons (pv 0) (pa_cons (pv 5) (pa_cons (pv 2) (pa_cons (pv 3) (pa_cons (pv 4) pa_nil))))))))) (pss_cons (ps_set (i := 6) sc_best.nd rfl (by first | exact Or.inl rfl | exact Or.inr rfl) (pe_op op_rep (pe_lst (pa_cons pe_int pa_nil)) (pv 1))) (pss_cons (ps_for PassesOwn.never rfl (pi_range2 (by rfl) T.range (pa_cons pe_int (pa_cons (pe_op op_add (pv 1) pe_int) pa_nil))) (pg_name (i := 7) sc_best.nd rfl (by first | exact Or.inl rfl | exact Or.inr rfl)) (pss_one (ps_asg (pe_op op_sub (pv 7) pe_int) (pg_sub (pv 6) (pe_op op_sub (pe_ix (k_ix K) (pv 4) (pv 7) (fun _ _ => rfl)) pe_int) set_list)))) (pss_one (ps_ret (pv 6)))))))))), ?_⟩
    refine q_asg (ev_lenf (ev_var rfl) hT.rows) fun H1 e1 => ?_
    have c1 := (Cells.start H).mono e1
    refine q_asgL (el_rep ev_c (ev_addn (ev_var rfl) (ev_cn (i := 1) rfl)) (by omega)) fun pm H2 npm e2 hpm => ?_
    have c2 := c1.new npm e2 (show H2 pm = some (.lst (vl (n + 1) fun _ => 0)) from hpm)
    refine q_asgL (el_rep ev_c (ev_addn (ev_var rfl) (ev_cn (i := 1) rfl)) (by omega)) fun pt H3 npt e3 hpt => ?_
    have c3 := c2.new npt e3 (show H3 pt = some (.lst (vl (n + 1) fun _ => 0)) from hpt)
    refine q_asgL (el_rep ev_c (ev_addn (ev_var rfl) (ev_cn (i := 1) rfl)) (by omega)) fun po H4 npo e4 hpo => ?_
    have c4 := c3.new npo e4 (show H4 po = some (.lst (vn (n + 1) fun _ => 0)) from hpo)
    have rev3 : ∀ {x y z : Addr × HO}, [x, y, z].Perm [z, y, x] := fun {x y z} => (List.reverse_perm [z, y, x])
    -- for who in range(1, size + 1): put_in(..)
    refine q_for1 (n := n) (ea_cons ev_c (ea_cons (ev_addn (ev_var rfl) (ev_cn (i := 1) rfl)) ea_nil)) (by omega) (fun i σ' H' => ∃ x5 u v p, σ' = [some (.ref t), some (.int (n : Int)), some (.ref pm), some (.ref pt), some (.ref po), x5, none, none] ∧ Cells H H' [(pm, .lst (vl (n + 1) u)), (pt, .lst (vl (n + 1) v)), (po, .lst (vn (n + 1) p))] ∧ HI n M (i + 1) u v p)
      (fun H5 e5 => ⟨_, _, _, _, rfl, (c4.mono e5).perm rev3, HI.start n M _ _⟩) (fun i σ' H' hi hW => ?_) fun σ' H' hW => ?_
    · obtain ⟨x5, u, v, p, rfl, hc, hI⟩ := hW
      refine drop_call (ea_cons (ev_var rfl) (ea_cons (ev_var rfl) (ea_cons (ev_var rfl) (ea_cons (ev_var rfl) (ea_cons (ev_var rfl) ea_nil))))) fun H5 e5 => ?_
      exact ⟨t, n, a, M, i + 1, pm, pt, po, u, v, p, H, rfl, hT, n12, by omega, by omega, hI, hc.mono e5, fun u' v' p' H6 hI' hc' => ⟨_, u', v', p', rfl, hc', hI'⟩⟩
    · obtain ⟨x5, u, v, p, rfl, hc, hI⟩ := hW
      obtain ⟨ppos, hG⟩ := hI.best
      refine q_asgL (el_rep ev_c (ev_var rfl) (by omega)) fun pf H5 npf e5 hpf => ?_
      have c5 := hc.new npf e5 (show H5 pf = some (.lst (vn n fun _ => 0)) from hpf)
      refine q_for1 (n := n) (ea_cons ev_c (ea_cons (ev_addn (ev_var rfl) (ev_cn (i := 1) rfl)) ea_nil)) (by omega) (fun i σ' H' => ∃ x7 fo, σ' = [some (.ref t), some (.int (n : Int)), some (.ref pm), some (.ref pt), some (.ref po), x5, some (.ref pf), x7] ∧ Cells H H' [(pf, .lst (vn n fo)), (pm, .lst (vl (n + 1) u)), (pt, .lst (vl (n + 1) v)), (po, .lst (vn (n + 1) p))] ∧ ∀ j, 1 ≤ j → j ≤ i → fo (p j - 1) = j - 1)
        (fun H6 e6 => ⟨_, _, rfl, c5.mono e6, fun j a b => by omega⟩) (fun i σ' H' hi hW => ?_) fun σ' H' hW => ?_
      · obtain ⟨x7, fo, rfl, hc, hf⟩ := hW
        have h1 := ppos (i + 1) (by omega) (by omega)
        have h2 := hI.pl (i + 1) (by omega) (by omega)
        refine s_setn (hc.get 0) (ev_subn (i := i + 1) (ev_var rfl) (ev_cn (i := 1) rfl) (by omega)) (ev_var rfl) (ev_subn (ev_ixn (i := i + 1) (ev_var rfl) (ev_var rfl) (sq_of (hc.get 3)) (by omega)) (ev_cn (i := 1) rfl) h1) (by omega) fun H6 e6 => ?_
        refine ⟨_, _, rfl, hc.set 0 (.lst (vn n (fset fo (p (i + 1) - 1) (i + 1 - 1)))) e6, fun j a b => ?_⟩
        by_cases ej : j = i + 1
        · rw [ej, fset_same]
        · have h3 := ppos j (by omega) (by omega)
          rw [fset_ne _ _ fun z => ej (hI.inj j (i + 1) (by omega) (by omega) (by omega) (by omega) (by omega) (by omega))]
          exact hf j a (by omega)
      · obtain ⟨x7, fo, rfl, hc, hf⟩ := hW
        obtain ⟨G, hPot⟩ := hG fo fun j a b => hf j a b
        obtain ⟨o, O⟩ := G.own
        refine s_ret (ev_var rfl) fun H6 e6 => q fo G ((can_iff G O n0).mpr ⟨_, hPot o O⟩) pf H6 (hc.fr (pf, _) (List.mem_cons_self)) (hc.ex.trans e6) (e6 _ _ (hc.get 0))
theorem elp_best {te : TE} {σ : L2.St} {H : Hp} {E : XK} {t : Addr} {n : Nat} {a : Nat → Addr} {M : Nat → Nat → Int} (h : Ev te σ H (.ref t)) (hT : Tab K H t n a M) (n0 : 0 < n) (n12 : n ≤ 12) : EvLP (tCall (spBest K) [] E (tCons te tNil)) σ H (fun xs => ∃ g, Pm n g ∧ Can n M g ∧ xs = vn n g) := fun H1 e Q q =>
  h H1 e _ fun H2 e2 => ⟨t, n, a, M, rfl, hT.mono (e.trans e2), n0, n12, fun g G hC p H3 np e3 hp => q p H3 _ ⟨g, G, hC, rfl⟩ (fresh_back e2 np) (e2.trans e3) hp⟩
/-- Settled(rooms, told_of(table, rent, rooms).prices) -/
theorem settled_ret {t1 t2 t3 : TE} {σ : L2.St} {H : Hp} {E : XK} {CP CR CS t c : Addr} {n : Nat} {a : Nat → Addr} {M : Nat → Nat → Int} {r : Int} {g : Nat → Nat} {D : Ends} (clP : Cls K CP) (npP : NoAttr K CP "prices") (h1 : Ev t1 σ H (.ref t)) (h2 : Ev t2 σ H (.int r)) (h3 : Ev t3 σ H (.ref c)) (hT : Tab K H t n a M) (n0 : 0 < n) (n12 : n ≤ 12)
    (hc : SqL K H c (vn n g)) (G : Pm n g) (hC : Can n M g) (q : ∀ f, Fit n M r g f → RetO2 CS (vn n g) (vl n f) H D.rt) : tRet (tMake CS (spInit2 K CS) [] E0 (tCons t3 (tCons (tFld K (tCall (spToldOf K CP CR) [] E (tCons t1 (tCons t2 (tCons t3 tNil)))) "prices") tNil))) D σ H := by
  refine make2 (fun xs ys => ∃ f, Fit n M r g f ∧ xs = vn n g ∧ ys = vl n f) (fun R hR => ?_) fun xs ys ⟨f, F, e1, e2⟩ => by
    rw [e1, e2]
    exact q f F
  refine h3 H (Ex.refl H) _ fun H1 e1 => ?_
  show tCall (spToldOf K CP CR) [] E (tCons t1 (tCons t2 (tCons t3 tNil))) σ H1 fun x H1 => ∃ a C dx fs v, x = .ref a ∧ H1 a = some (.ins C dx fs) ∧ Cls K C ∧ NoAttr K C "prices" ∧ fs.lookup ("prices" : Str) = some v ∧ R [.ref c, v] H1
  refine told_read (h1.mono e1) (h2.mono e1) (h3.mono e1) (hT.mono e1) n0 n12 (ex_l e1 hc) G ⟨fun _ p' F' pp l H5 a1 a2 a3 a4 => ?_, fun hn => absurd hC hn⟩
  obtain ⟨dx, a5, a6⟩ := a4
  exact ⟨pp, CP, dx, _, .ref l, rfl, a5, clP, npP, by simp [List.lookup], hR c l _ _ H5 ⟨p', F', rfl, rfl⟩ (e1.trans a3) (ex_l (e1.trans a3) hc) (sq_of a6)⟩
/-- settled(table, rent) -/
def spSettled (K : PySem.W.Frag) (CT CR CS : Addr) : Sp := fun vs H Q E => ∃ x r, vs = [x, r] ∧ AskT K CT x H E fun _ n _ M => AskR K CR r H E fun z => ∀ g f, Pm n g → Fit n M z g f → RetO2 CS (vn n g) (vl n f) H Q
theorem c_settled (T : Blt mg) {CT CR CP CG CS : Addr} (c_asked_table : Cl P w K mg base 3 "asked_table" (spTable K CT)) (c_asked_rent : Cl P w K mg base 2 "asked_rent" (spRent K CR)) (c_best : Cl P w K mg base 2 "best" (spBest K)) (c_told_of : Cl P w K mg base 4 "told_of" (spToldOf K CP CG))
    (k_Settled : Nw P w K mg base 1 "Settled" CS (spInit2 K CS)) (clP : Cls K CP) (npP : NoAttr K CP "prices") {f : Addr} {fd : FuncData} (F : Fun K "settled" "settled" s_settled f fd) (g : mg "settled" = some (.ref f)) (b : Binds K fd P_settled []) : Cl P w K mg base 5 "settled" (spSettled K CT CR CS) := by
  refine ⟨f, fd, _, (F.okX sc_settled (fun vs H Q E h => ?_) (fun cdv A outer s H vs Q E hr h => ?_)), g, F.kp, b⟩
  · obtain ⟨x, r, rfl, _⟩ := h
    rfl
  · obtain ⟨x, r, rfl, h⟩ := h
    refine ⟨_, (pss_cons (ps_expr (pe_k c_asked_table hr (by decide) (passes_call (takes_of rfl rfl rfl rfl) fun _ _ _ _ h => h) (by rfl) (pa_cons (pv 0) pa_nil))) (pss_cons (ps_expr (pe_k c_asked_rent hr (by decide) (passes_call (takes_of rfl rfl rfl rfl) fun _ _ _ _ h => h) (by rfl) (pa_cons (pv 1) pa_nil))) (pss_cons (ps_set (i := 2) sc_settled.nd rfl (by first | exact Or.inl rfl | exact Or.inr rfl) (pe_k c_best hr (by decide) (passes_call (takes_of rfl rfl rfl rfl) fun _ _ _ _ h => h) (by rfl) (pa_cons (pv 0) pa_nil))) (pss_one (ps_ret (pe_nw k_Settled hr (by decide) (by rfl) (pa_cons (pv 2) (pa_cons (pe_f K (pe_k c_told_of hr (by decide) (passes_call (takes_of rfl rfl rfl rfl) fun _ _ _ _ h => h) (by rfl) (pa_cons (pv 0) (pa_cons (pv 1) (pa_cons (pv 2) pa_nil)))) rfl) pa_nil)))))))), ?_⟩
    refine q_askT h (fun H1 e => ev_var rfl) fun t n a M ex hT n1 n12 h2 H1 e1 => ?_
    subst ex
    refine q_askR h2 e1 (ev_var rfl) fun z ez q H2 e2 => ?_
    subst ez
    have e12 := e1.trans e2
    refine q_asgP (elp_best (ev_var rfl) (hT.mono e12) n1 n12) fun pr H3 xs hx npr e3 hpr => ?_
    obtain ⟨g, G, hC, rfl⟩ := hx
    have e13 := e12.trans e3
    obtain ⟨p, F⟩ := hC.at_ G z
    refine settled_ret clP npP (ev_var rfl) (ev_var rfl) (ev_var rfl) (hT.mono e13) n1 n12 (sq_of hpr) G hC fun p F => (q g p G F).go e13
end
end RW
namespace RW
open PySem PySem.Spec PyProof.Rows L2 Evl RP
section
variable {P : Program} {w : World} {K : PySem.W.Frag} {mg : Str → Option Value} {base : Heap}
def spTold (K : PySem.W.Frag) (CT CR CG CP CI : Addr) : Sp := fun vs H Q E => ∃ x r c, vs = [x, r, c] ∧ AskT K CT x H E fun _ n _ M => AskR K CR r H E fun z => AskG K CG n c H E fun _ g => Told CP CI n M z g H Q
theorem c_told {CT CR CG CP CI : Addr} (c_asked_table : Cl P w K mg base 3 "asked_table" (spTable K CT)) (c_asked_rent : Cl P w K mg base 2 "asked_rent" (spRent K CR)) (c_asked_giving : Cl P w K mg base 3 "asked_giving" (spGiving K CG)) (c_told_of : Cl P w K mg base 4 "told_of" (spToldOf K CP CI))
    {f : Addr} {fd : FuncData} (F : Fun K "told" "told" s_told f fd) (g : mg "told" = some (.ref f)) (b : Binds K fd P_told []) : Cl P w K mg base 5 "told" (spTold K CT CR CG CP CI) := by
  refine ⟨f, fd, _, (F.okX sc_told (fun vs H Q E h => ?_) (fun cdv A outer s H vs Q E hr h => ?_)), g, F.kp, b⟩
  · obtain ⟨x, r, c, rfl, _⟩ := h
    rfl
  · obtain ⟨x, r, c, rfl, h⟩ := h
    refine ⟨_, (pss_cons (ps_expr (pe_k c_asked_table hr (by decide) (passes_call (takes_of rfl rfl rfl rfl) fun _ _ _ _ h => h) (by rfl) (pa_cons (pv 0) pa_nil))) (pss_cons (ps_expr (pe_k c_asked_rent hr (by decide) (passes_call (takes_of rfl rfl rfl rfl) fun _ _ _ _ h => h) (by rfl) (pa_cons (pv 1) pa_nil))) (pss_cons (ps_expr (pe_k c_asked_giving hr (by decide) (passes_call (takes_of rfl rfl rfl rfl) fun _ _ _ _ h => h) (by rfl) (pa_cons (pv 0) (pa_cons (pv 2) pa_nil)))) (pss_one (ps_ret (pe_k c_told_of hr (by decide) (passes_call (takes_of rfl rfl rfl rfl) fun _ _ _ _ h => h) (by rfl) (pa_cons (pv 0) (pa_cons (pv 1) (pa_cons (pv 2) pa_nil))))))))), ?_⟩
    refine q_askT h (fun H1 e => ev_var rfl) fun t n a M ex hT n1 n12 h2 H1 e1 => ?_
    subst ex
    refine q_askR h2 e1 (ev_var rfl) fun z ez h3 H2 e2 => ?_
    subst ez
    refine q_askG h3 (e1.trans e2) (ev_var rfl) (ev_var rfl) hT.rows n12 fun c g ec hc G q H3 e3 => ?_
    subst ec
    have e := (e1.trans e2).trans e3
    exact told_read (ev_var rfl) (ev_var rfl) (ev_var rfl) (hT.mono e) n1 n12 (ex_l e hc) G (q.go e)
end
end RW
namespace RW
open PySem PySem.Spec PyProof.Rows L2 Evl RP
section
variable {P : Program} {w : World} {K : PySem.W.Frag} {mg : Str → Option Value} {base : Heap}
/-! ### an answer's own word -/
def spShowsP (K : PySem.W.Frag) (CP : Addr) : Sp := fun vs H Q _ => ∃ p l m f t n a M r c g b, vs = [.ref p, .ref t, .int r, .ref c] ∧ Ob1 CP "prices" H p l (vl m f) ∧ Tab K H t n a M ∧ 0 < n ∧ n ≤ 12 ∧ SqL K H c (vn n g) ∧ (∀ i, i < n → g i < n) ∧ (b = true ↔ m = n ∧ Fit n M r g f) ∧ RetV (.bl b) H Q
theorem m_Priced_shows (T : Blt mg) {CP : Addr} (cl : Cls K CP) (nf : NoAttr K CP "prices") (me : Meth K CP "shows" f) (c_are_fit : Cl P w K mg base 1 "are_fit" (spAre K)) {fd : FuncData} (F : Fun K "shows" "Priced.shows" s_Priced_shows f fd) (b : Binds K fd P_Priced_shows []) : Mt P w K mg base 2 CP "shows" (spShowsP K CP) := by
  refine ⟨f, fd, _, cl, me, fn_lift (F.ok sc_Priced_shows (fun vs H Q E h => ?_) (fun cdv A outer s H vs Q E hr h => ?_)), b⟩
  · obtain ⟨p, l, m, f, t, n, a, M, r, c, g, b, rfl, _⟩ := h
    rfl
  · obtain ⟨p, l, m, f, t, n, a, M, r, c, g, b, rfl, ⟨dx, hp, hl⟩, hT, n0, n12, hc, gl, hb, q⟩ := h
    refine ⟨_, (pss_one (ps_ret (pe_and (pe_cmpR op_eq (pe_callB (k_len K) (by rfl) T.len (by decide +kernel) (pa_cons (pe_f K (pv 0) rfl) pa_nil)) (pe_callB (k_len K) (by rfl) T.len (by decide +kernel) (pa_cons (pv 1) pa_nil)) (nomark _)) (pe_one (pe_k c_are_fit hr (by decide) passL (by rfl) (pa_cons (pv 1) (pa_cons (pv 2) (pa_cons (pv 3) (pa_cons (pe_f K (pv 0) rfl) pa_nil))))))))), ?_⟩
    have hf : ∀ {H1}, Ex H H1 → Ev (tFld K (tVar 0) "prices") [some (.ref p), some (.ref t), some (.int r), some (.ref c)] H1 (.ref l) := fun e => ev_fld (ev_var rfl) (e _ _ hp) cl nf (by simp [List.lookup])
    refine s_ret (ev_is (ev_andV (b := dec (Fit n M r g f)) (ev_eqI (ev_lenf (hf (Ex.refl H)) (sq_of hl)) (ev_lenf (ev_var rfl) hT.rows)) fun hmn => ?_) ?_) q
    · have : m = n := by
        have := of_decide_eq_true hmn
        omega
      subst this
      exact ev_are (ev_var rfl) (ev_var rfl) (ev_var rfl) (hf (Ex.refl H)) hT n0 n12 hc gl (sq_of hl) dec_iff
    · congr 1
      rw [Bool.eq_iff_iff, hb, Bool.and_eq_true, decide_eq_true_iff, dec_iff]
      exact ⟨fun ⟨x, y⟩ => ⟨by omega, y⟩, fun ⟨x, y⟩ => ⟨by omega, y⟩⟩
/-- people, none twice, each one of them, by which all say more -/
def RingB (n : Nat) (M : Nat → Nat → Int) (g : Nat → Nat) (f : Nat → Int) (k : Nat) : Prop := ∃ pn : Nat → Nat, (∀ i, i < k → f i = ((pn i : Nat) : Int)) ∧ 0 < k ∧ (∀ i, i < k → pn i < n) ∧ (∀ i j, i < k → j < k → pn i = pn j → i = j) ∧ 0 < gainN M g pn k
def spShowsR (K : PySem.W.Frag) (CR : Addr) : Sp := fun vs H Q _ => ∃ p l k f t n a M rv c g b, vs = [.ref p, .ref t, rv, .ref c] ∧ Ob1 CR "people" H p l (vl k f) ∧ k < 64 ∧ Tab K H t n a M ∧ SqL K H c (vn n g) ∧ (∀ i, i < n → g i < n) ∧ (b = true ↔ RingB n M g f k) ∧ RetV (.bl b) H Q
theorem ev_lenSet {te : TE} {σ : L2.St} {H : Hp} {l : Addr} {k : Nat} {f : Nat → Int} (h : Ev te σ H (.ref l)) (hl : SqL K H l (vl k f)) (hk : k < 64) : Ev (tLenSetX K te) σ H (.int (((met (il k f)).length : Nat) : Int)) := fun H1 e Q q =>
  h H1 e _ fun H2 e2 => ⟨l, il k f, rfl, by rw [← vl_il]; exact ex_l (e.trans e2) hl, by rw [il_len]; exact hk, q H2 e2⟩
theorem m_Ring_shows (T : Blt mg) {CR : Addr} (cl : Cls K CR) (nf : NoAttr K CR "people") (me : Meth K CR "shows" f) {fd : FuncData} (F : Fun K "shows" "Ring.shows" s_Ring_shows f fd) (b : Binds K fd P_Ring_shows []) : Mt P w K mg base 1 CR "shows" (spShowsR K CR) := by
  refine ⟨f, fd, _, cl, me, fn_lift (F.ok sc_Ring_shows (fun vs H Q E h => ?_) (fun cdv A outer s H vs Q E hr h => ?_)), b⟩
  · obtain ⟨p, l, k, f, t, n, a, M, rv, c, g, b, rfl, _⟩ := h
    rfl
  · obtain ⟨p, l, k, f, t, n, a, M, rv, c, g, b, rfl, ⟨dx, hp, hl⟩, hk, hT, hc, gl, hb, q⟩ := h
    refine ⟨_, (pss_cons (ps_if (PW.pt (pw_or (pt_cmpR (k_eqD K hr.units) (pe_f K (pv 0) rfl) (pe_lst pa_nil) (nomark _)) (pw_or1 (pt_cmpR op_ne (pe_ls K (by rfl) T.len (by rfl) T.set_ (pe_f K (pv 0) rfl)) (pe_callB (k_len K) (by rfl) T.len (by decide +kernel) (pa_cons (pe_f K (pv 0) rfl) pa_nil)) (nomark _))))) (pss_one (ps_ret pe_bl)) pss_nil) (pss_cons (ps_if (pt_not (pt_val (pe_callB (k_all K) (by rfl) T.all_ (by decide +kernel) (pa_cons (pe_lc (own := [("who", 6)]) rfl sc_Ring_shows.nd (pi_l K (pe_f K (pv 0) rfl)) (blkOk_by (by kernel_rfl)) (fun _ _ _ _ _ => (pg_name (i := 6) sc_Ring_shows.nd rfl (by first | exact Or.inl rfl | exact Or.inr rfl))) (fun _ _ _ _ _ => pts_nil) (fun _ _ _ _ _ => (pe_chain op_le op_lt pe_int (pv 6) (pe_callB (k_len K) (by rfl) T.len (by decide +kernel) (pa_cons (pv 1) pa_nil))))) pa_nil)))) (pss_one (ps_ret pe_bl)) pss_nil) (pss_cons (ps_set (i := 4) sc_Ring_shows.nd rfl (by first | exact Or.inl rfl | exact Or.inr rfl) pe_int) (pss_cons (ps_for PassesOwn.never rfl (pi_en K (by rfl) T.enumerate (pa_cons (pe_f K (pv 0) rfl) pa_nil)) (pg_t K (n := 2) rfl (pgs_cons (pg_name (i := 5) sc_Ring_shows.nd rfl (by first | exact Or.inl rfl | exact Or.inr rfl)) (pgs_cons (pg_name (i := 6) sc_Ring_shows.nd rfl (by first | exact Or.inl rfl | exact Or.inr rfl)) pgs_nil))) (pss_cons (ps_set (i := 7) sc_Ring_shows.nd rfl (by first | exact Or.inl rfl | exact Or.inr rfl) (pe_ix (k_ix K) (pe_f K (pv 0) rfl) (pe_op op_sub (pv 5) pe_int) (fun _ _ => rfl))) (pss_one (ps_set (i := 4) sc_Ring_shows.nd rfl (by first | exact Or.inl rfl | exact Or.inr rfl) (pe_op op_sub (pe_op op_add (pv 4) (pe_ix (k_ix K) (pe_ix (k_ix K) (pv 1) (pv 7) (fun _ _ => rfl)) (pe_ix (k_ix K) (pv 3) (pv 6) (fun _ _ => rfl)) (fun _ _ => rfl))) (pe_ix (k_ix K) (pe_ix (k_ix K) (pv 1) (pv 7) (fun _ _ => rfl)) (pe_ix (k_ix K) (pv 3) (pv 7) (fun _ _ => rfl)) (fun _ _ => rfl))))))) (pss_one (ps_ret (pe_cmpR op_gt (pv 4) pe_int (nomark _)))))))), ?_⟩
    have hf : ∀ {H1} {σ : L2.St}, Ex H H1 → σ[0]? = some (some (.ref p)) → Ev (tFld K (tVar 0) "people") σ H1 (.ref l) := fun e hs => ev_fld (ev_var hs) (e _ _ hp) cl nf (by simp [List.lookup])
    have no : ¬ RingB n M g f k → b = false := fun h => by
      cases b with
      | false => rfl
      | true => exact absurd (hb.mp rfl) h
    -- no people, or one twice
    refine q_when (b := decide (k = 0) || !decide ((met (il k f)).length = k)) (et_or (et_is (et_test (evd_eq (Ev.d (hf (Ex.refl H) rfl) (dp_ints (sq_of hl))) (evd_lst (ns := []) (el_lst ea_nil (Nat.zero_le _))) (dI_shaped _) (dI_shaped _))) ?_) fun _ => et_is (et_test (ev_neI (ev_lenSet (hf (Ex.refl H) rfl) (sq_of hl) hk) (ev_lenf (hf (Ex.refl H) rfl) (sq_of hl)))) ?_) (fun h1 H1 e1 => ?_) fun h1 H1 e1 => ?_
    · rw [eqv_ints]
      refine decide_eq_decide.mpr ⟨fun e => ?_, fun e => by rw [e]; rfl⟩
      have := congrArg List.length e
      rw [il_len] at this
      exact this
    · congr 1
      exact decide_eq_decide.mpr (by omega)
    · have h2 : b = false := no fun ⟨pn, a1, a2, a3, a4, a5⟩ => by
        rw [Bool.or_eq_true, decide_eq_true_iff, Bool.not_eq_true', decide_eq_false_iff_not] at h1
        rcases h1 with h1 | h1
        · omega
        · refine h1 (((met_iff _).mpr ?_).trans (il_len k f))
          exact il_nodup.mpr fun i j hi hj e => a4 i j hi hj (by rw [a1 i hi, a1 j hj] at e; omega)
      subst h2
      exact s_ret ev_c fun H2 e2 => q H2 (e1.trans e2)
    · rw [Bool.or_eq_false_iff, decide_eq_false_iff_not, Bool.not_eq_false', decide_eq_true_iff] at h1
      obtain ⟨k0, h1⟩ := h1
      have nd : (il k f).Nodup := (met_iff _).mp (h1.trans (il_len k f).symm)
      -- each one of them
      refine q_when (b := !(bf k fun i => decide (0 ≤ f i ∧ f i < (n : Int))).all id) (et_not (et_B (ev_allL (bs := bf k fun i => decide (0 ≤ f i ∧ f i < (n : Int))) ?_))) (fun h2 H2 e2 => ?_) fun h2 H2 e2 => ?_
      · rw [← vf_bf]
        refine el_lc _ (hf e1 rfl) (ex_l e1 (sq_of hl)) (by omega) (fun _ => rfl) fun i H2 e2 hi => ?_
        refine ev_is (ev_chain (r := rI0 fun i j => .bl (decide (i ≤ j))) (r' := rI0 fun i j => .bl (decide (i < j))) (b1 := decide (0 ≤ f i)) (b2 := decide (f i < (n : Int))) ev_c (ev_var rfl) rv_I0 (fun _ => ev_lenf (ev_var rfl) (ex_l (e1.trans e2) hT.rows)) fun _ => rv_I0) ?_
        rw [← Bool.decide_and]
      · have h3 : b = false := no fun ⟨pn, a1, a2, a3, a4, a5⟩ => by
          have h4 : (bf k fun i => decide (0 ≤ f i ∧ f i < (n : Int))).all id = true := bf_all.mpr fun i hi => decide_eq_true (by rw [a1 i hi]; have := a3 i hi; omega)
          rw [h4] at h2
          cases h2
        subst h3
        exact s_ret ev_c fun H3 e3 => q H3 ((e1.trans e2).trans e3)
      · have h3 : ∀ i, i < k → 0 ≤ f i ∧ f i < (n : Int) := fun i hi => of_decide_eq_true (bf_all.mp (by rw [Bool.not_eq_false'] at h2; exact h2) i hi)
        have hpn : ∀ i, i < k → f i = (((f i).toNat : Nat) : Int) := fun i hi => by
          have := (h3 i hi).1
          omega
        have hlt : ∀ i, i < k → (f i).toNat < n := fun i hi => by
          have := h3 i hi
          omega
        have hl' : SqL K H l (vn k fun i => (f i).toNat) := by
          have e : vl k f = vn k fun i => (f i).toNat := vf_congr fun i hi => by
            show V.int (f i) = V.int _
            rw [← hpn i hi]
          rw [← e]
          exact sq_of hl
        refine q_asg ev_c fun H3 e3 => ?_
        have e13 := (e1.trans e2).trans e3
        refine q_forE (ea_cons (hf e13 rfl) ea_nil) (ex_l e13 hl') (fun i σ' H' => ∃ x5 x6 x7, σ' = [some (.ref p), some (.ref t), some rv, some (.ref c), some (.int (sumN i fun i => say M g (f (prv k i)).toNat (f i).toNat)), x5, x6, x7] ∧ Ex H H')
          (fun H4 e4 => ⟨_, _, _, rfl, e13.trans e4⟩) (fun i σ' H' _ ⟨_, _, _, _, e⟩ => ex_l e hl') (fun i σ' H' H4 hi ⟨x5, x6, x7, hσ, e⟩ e4 => ?_) fun σ' H' ⟨x5, x6, x7, hσ, e⟩ => ?_
        · subst hσ
          have e' := e.trans e4
          have hpk : prv k i < k := by
            unfold prv
            split <;> omega
          refine q_asg (v := .int (((f (prv k i)).toNat : Nat) : Int)) ?_ fun H5 e5 => ?_
          · by_cases hi0 : i = 0
            · subst hi0
              exact ev_ix (hf e' rfl) (ev_is (ev_sub (ev_var rfl) ev_c) (show V.int (((0 : Nat) : Int) - 1) = V.int (-1) from rfl)) (ex_l e' hl') (at_last (by omega))
            · have e1 : prv k i = i - 1 := if_neg hi0
              rw [e1] at hpk ⊢
              exact ev_ixn (f := fun i => (f i).toNat) (i := i - 1) (hf e' rfl) (ev_subn (i := i) (ev_var rfl) (ev_cn (i := 1) rfl) (by omega)) (ex_l e' hl') hpk
          · have e5' := e'.trans e5
            have hT5 := hT.mono e5'
            have hg : SqL K H5 c (vn n g) := ex_l e5' hc
            refine s_asg (ev_sub (ev_add (ev_var rfl) (ev_tab hT5 (ev_var rfl) (ev_var rfl) (ev_ixn (i := (f i).toNat) (ev_var rfl) (ev_var rfl) hg (hlt i hi)) (hlt _ hpk) (gl _ (hlt i hi)))) (ev_tab hT5 (ev_var rfl) (ev_var rfl) (ev_ixn (i := (f (prv k i)).toNat) (ev_var rfl) (ev_var rfl) hg (hlt _ hpk)) (hlt _ hpk) (gl _ (hlt _ hpk)))) fun H6 e6 => ?_
            refine ⟨some (.int (i : Int)), some (.int (((f i).toNat : Nat) : Int)), some (.int (((f (prv k i)).toNat : Nat) : Int)), ?_, e5'.trans e6⟩
            have es : sumN i (fun i => say M g (f (prv k i)).toNat (f i).toNat) + M (f (prv k i)).toNat (g (f i).toNat) - M (f (prv k i)).toNat (g (f (prv k i)).toNat) = sumN (i + 1) fun i => say M g (f (prv k i)).toNat (f i).toNat := by
              show _ = sumN i (fun i => say M g (f (prv k i)).toNat (f i).toNat) + say M g (f (prv k i)).toNat (f i).toNat
              unfold RP.say
              omega
            rw [← es]
            rfl
        · subst hσ
          refine s_ret (ev_is (ev_gt (ev_var rfl) ev_c) ?_) fun H4 e4 => q H4 (e.trans e4)
          congr 1
          rw [Bool.eq_iff_iff, hb, decide_eq_true_iff]
          have hg : sumN k (fun i => say M g (f (prv k i)).toNat (f i).toNat) = gainN M g (fun i => (f i).toNat) k := gain_eq (f := fun i => (f i).toNat)
          rw [hg]
          constructor
          · exact fun h => ⟨fun i => (f i).toNat, hpn, by omega, hlt, fun i j hi hj e => il_nodup.mp nd i j hi hj (by rw [hpn i hi, hpn j hj]; exact congrArg _ e), h⟩
          · rintro ⟨pn, a1, a2, a3, a4, a5⟩
            have e2 : gainN M g (fun i => (f i).toNat) k = gainN M g pn k := sumN_congr fun i hi => by
              have hnk : nxt k i < k := by
                unfold nxt
                split <;> omega
              show say M g (f i).toNat (f (nxt k i)).toNat = say M g (pn i) (pn (nxt k i))
              rw [a1 i hi, a1 _ hnk, Int.toNat_natCast, Int.toNat_natCast]
            rw [e2]
            exact a5
def spShowsS (K : PySem.W.Frag) (CS : Addr) : Sp := fun vs H Q _ => ∃ p l m kl fl km fm t n a M r b, vs = [.ref p, .ref t, .int r] ∧ Ob2 CS H p l m (vl kl fl) (vl km fm) ∧ kl < 64 ∧ Tab K H t n a M ∧ 0 < n ∧ n ≤ 12 ∧
  (b = true ↔ kl = n ∧ km = n ∧ ∃ g, Pm n g ∧ (∀ i, i < n → fl i = ((g i : Nat) : Int)) ∧ Fit n M r g fm) ∧ RetV (.bl b) H Q
theorem srt_len {k n : Nat} {f : Nat → Int} (h : srt (il k f) = il n fun i => (i : Int)) : k = n := by
  have e := (srt_perm (il k f)).length_eq
  rw [h, il_len, il_len] at e
  exact e.symm
theorem m_Settled_shows (T : Blt mg) {CS : Addr} (cl : Cls K CS) (nr : NoAttr K CS "rooms") (np : NoAttr K CS "prices") (me : Meth K CS "shows" f) (c_are_fit : Cl P w K mg base 1 "are_fit" (spAre K)) {fd : FuncData} (F : Fun K "shows" "Settled.shows" s_Settled_shows f fd) (b : Binds K fd P_Settled_shows []) : Mt P w K mg base 2 CS "shows" (spShowsS K CS) := by
  refine ⟨f, fd, _, cl, me, fn_lift (F.ok sc_Settled_shows (fun vs H Q E h => ?_) (fun cdv A outer s H vs Q E hr h => ?_)), b⟩
  · obtain ⟨p, l, m, kl, fl, km, fm, t, n, a, M, r, b, rfl, _⟩ := h
    rfl
  · obtain ⟨p, l, m, kl, fl, km, fm, t, n, a, M, r, b, rfl, ⟨dx, hp, hl, hm⟩, hkl, hT, n0, n12, hb, q⟩ := h
    refine ⟨_, (pss_cons (ps_if (PW.pt (pw_or (pt_cmpR (k_neD K hr.units) (pe_callB (k_sorted K) (by rfl) T.sorted (by decide +kernel) (pa_cons (pe_f K (pv 0) rfl) pa_nil)) (pe_listRg rfl (by rfl) T.list_ (prg_1 (by rfl) T.range (pe_callB (k_len K) (by rfl) T.len (by decide +kernel) (pa_cons (pv 1) pa_nil)))) (nomark _)) (pw_or1 (pt_cmpR op_ne (pe_callB (k_len K) (by rfl) T.len (by decide +kernel) (pa_cons (pe_f K (pv 0) rfl) pa_nil)) (pe_callB (k_len K) (by rfl) T.len (by decide +kernel) (pa_cons (pv 1) pa_nil)) (nomark _))))) (pss_one (ps_ret pe_bl)) pss_nil) (pss_one (ps_ret (pe_k c_are_fit hr (by decide) passL (by rfl) (pa_cons (pv 1) (pa_cons (pv 2) (pa_cons (pe_f K (pv 0) rfl) (pa_cons (pe_f K (pv 0) rfl) pa_nil)))))))), ?_⟩
    have hfr : ∀ {H1}, Ex H H1 → Ev (tFld K (tVar 0) "rooms") [some (.ref p), some (.ref t), some (.int r)] H1 (.ref l) := fun e => ev_fld (ev_var rfl) (e _ _ hp) cl nr (by simp [List.lookup])
    have hfp : ∀ {H1}, Ex H H1 → Ev (tFld K (tVar 0) "prices") [some (.ref p), some (.ref t), some (.int r)] H1 (.ref m) := fun e => ev_fld (ev_var rfl) (e _ _ hp) cl np (by rfl)
    have no : ¬ (kl = n ∧ km = n ∧ ∃ g, Pm n g ∧ (∀ i, i < n → fl i = ((g i : Nat) : Int)) ∧ Fit n M r g fm) → b = false := fun h => by
      cases b with
      | false => rfl
      | true => exact absurd (hb.mp rfl) h
    refine q_when (b := !decide (srt (il kl fl) = il n fun i => (i : Int)) || !decide (km = n)) (et_or (et_test (ev_srtNe (hfr (Ex.refl H)) (sq_of hl) hkl (ev_lenf (ev_var rfl) hT.rows) (by omega))) fun _ => et_is (et_test (ev_neI (ev_lenf (hfp (Ex.refl H)) (sq_of hm)) (ev_lenf (ev_var rfl) hT.rows))) ?_) (fun h1 H1 e1 => ?_) fun h1 H1 e1 => ?_
    · congr 1
      exact decide_eq_decide.mpr (by omega)
    · have h2 : b = false := no fun ⟨a1, a2, g, G, a3, F⟩ => by
        rw [Bool.or_eq_true, Bool.not_eq_true', Bool.not_eq_true', decide_eq_false_iff_not, decide_eq_false_iff_not] at h1
        rcases h1 with h1 | h1
        · subst a1
          exact h1 (srt_gv.mpr ⟨g, G, a3⟩)
        · exact h1 a2
      subst h2
      exact s_ret ev_c fun H2 e2 => q H2 (e1.trans e2)
    · rw [Bool.or_eq_false_iff, Bool.not_eq_false', Bool.not_eq_false', decide_eq_true_iff, decide_eq_true_iff] at h1
      obtain ⟨h1, h2⟩ := h1
      have hkn := srt_len h1
      subst hkn
      subst h2
      obtain ⟨g, G, hg⟩ := srt_gv.mp h1
      have hl' : SqL K H1 l (vn km g) := by
        have e : vl km fl = vn km g := vf_congr fun i hi => by
          show V.int (fl i) = _
          rw [hg i hi]
        rw [← e]
        exact sq_of (e1 _ _ hl)
      refine s_ret (ev_are (ev_var rfl) (ev_var rfl) (hfr e1) (hfp e1) (hT.mono e1) n0 n12 hl' G.lt (sq_of (e1 _ _ hm)) ?_) fun H2 e2 => q H2 (e1.trans e2)
      rw [hb]
      constructor
      · rintro ⟨_, _, g', G', hg', F⟩
        have e : ∀ i, i < km → g i = g' i := fun i hi => by
          have := hg i hi
          have := hg' i hi
          omega
        refine ⟨F.sum, fun i j hi hj => ?_⟩
        rw [e i hi]
        exact F.no i j hi hj
      · exact fun F => ⟨rfl, rfl, g, G, hg, F⟩
end
end RW
namespace RW
open PySem PySem.Spec PyProof.Rows L2 Evl RP
section
variable {P : Program} {w : World} {K : PySem.W.Frag} {mg : Str → Option Value} {base : Heap}
/-! ### what the laws draw -/
def spNumber : Sp := fun vs H Q _ => ∃ c at_ w N, vs = [.int c, .int ((at_ : Nat) : Int), .int w] ∧ at_ ≤ 1000 ∧ 64 ≤ N ∧ N ≤ 2000000 ∧ Bd N c ∧ ∀ z, RetV (.int z) H Q
theorem c__law_number (T : Blt mg) {f : Addr} {fd : FuncData} (F : Fun K "_law_number" "_law_number" s__law_number f fd) (g : mg "_law_number" = some (.ref f)) (b : Binds K fd P__law_number []) : Cl P w K mg base 1 "_law_number" spNumber := by
  refine ⟨f, fd, _, fn_lift (F.ok sc__law_number (fun vs H Q E h => ?_) (fun cdv A outer s H vs Q E hr h => ?_)), g, F.kp, b⟩
  · obtain ⟨c, at_, w, N, rfl, _⟩ := h
    rfl
  · obtain ⟨c, at_, w, N, rfl, ha, h64, hN, hc, q⟩ := h
    refine ⟨_, (pss_cons (ps_if (pt_cmpR op_ge (pv 0) (pe_op op_pow pe_int pe_int) (nomark _)) (pss_one (ps_ret (pe_op op_fdivW (pv 0) (pe_op op_add pe_int (pe_op op_mod (pv 1) pe_int))))) pss_nil) (pss_cons (ps_set (i := 3) sc__law_number.nd rfl (by first | exact Or.inl rfl | exact Or.inr rfl) (pe_op op_mod (pe_op op_add (pe_op op_mulX (pe_op op_add (pv 0) (pe_op op_mulX pe_int (pv 1))) pe_int) (pv 2)) pe_int)) (pss_cons (ps_set (i := 4) sc__law_number.nd rfl (by first | exact Or.inl rfl | exact Or.inr rfl) (pe_op op_mulX (pv 3) (pe_op op_add (pe_op op_add (pv 0) (pe_op op_mulX pe_int (pv 1))) pe_int))) (pss_one (ps_ret (pe_op op_fdivW (pe_op op_mulX (pe_op op_mulX (pv 4) (pe_op op_add (pe_op op_add (pv 3) (pv 0)) pe_int)) (pe_op op_add (pe_op op_mulX (pv 3) (pv 3)) pe_int)) (pe_op op_add pe_int (pv 1)))))))), ?_⟩
    refine q_when (et_test (ev_ge (ev_var rfl) (ev_pow (i := 10) (j := 18) ev_c ev_c (by unfold CPow; decide)))) (fun _ H1 e1 => s_ret (ev_fdiv (ev_var rfl) (ev_add ev_c (ev_mod (ev_var rfl) ev_c (by decide))) (by omega) (by omega)) fun H2 e2 => q _ H2 (e1.trans e2)) fun _ H1 e1 => ?_
    refine q_asg (ev_mod (ev_add (ev_mul (ev_add (ev_var rfl) (ev_mul ev_c (ev_var rfl) (mulok_l (by decide)))) ev_c (mulok_r (by decide))) (ev_var rfl)) ev_c (by decide)) fun H2 e2 => ?_
    have m0 := Int.emod_nonneg ((c + 977 * (at_ : Int)) * 48271 + w) (b := 2147483647) (by decide)
    have m1 := Int.emod_lt_of_pos ((c + 977 * (at_ : Int)) * 48271 + w) (b := 2147483647) (by decide)
    generalize ((c + 977 * (at_ : Int)) * 48271 + w) % 2147483647 = m at m0 m1
    have bm : Bd N m := bd_mono h64 (bd_lt (by omega))
    have ba : Bd N (31 * (at_ : Int)) := bd_mono h64 (bd_lt (by omega))
    have b7 : ∀ z : Int, -(2 ^ 63) ≤ z ∧ z ≤ 2 ^ 63 → Bd (N + 1) z := fun z hz => bd_mono (by omega) (bd_lt hz)
    refine q_asg (ev_mul (ev_var rfl) (ev_add (ev_add (ev_var rfl) (ev_mul ev_c (ev_var rfl) (mulok_l (by decide)))) ev_c) (mulok_l (by omega))) fun H3 e3 => ?_
    have bmore : Bd (64 + (N + 1 + 1)) (m * (c + 31 * (at_ : Int) + 7)) := bd_mul (bd_lt (by omega)) (bd_add (bd_add hc ba) (b7 7 (by decide)))
    have bsum : Bd (N + 1 + 1) (m + c + 5) := bd_add (bd_add bm hc) (b7 5 (by decide))
    have mm : m * m ≤ 2147483647 * 2147483647 := Int.mul_le_mul (by omega) (by omega) m0 (by decide)
    have mm0 : 0 ≤ m * m := Int.mul_nonneg m0 m0
    exact s_ret (ev_fdiv (ev_mul (ev_mul (ev_var rfl) (ev_add (ev_add (ev_var rfl) (ev_var rfl)) ev_c) (mulok_bd bmore bsum (by omega))) (ev_add (ev_mul (ev_var rfl) (ev_var rfl) (mulok_l (by omega))) ev_c) (mulok_r (by omega))) (ev_add ev_c (ev_var rfl)) (by omega) (by omega)) fun H4 e4 => q _ H4 (((e1.trans e2).trans e3).trans e4)
/-- a call of it: any number -/
theorem q_num {t1 t2 t3 : TE} {tz : TS} {D : Ends} {σ : L2.St} {H : Hp} {E : XK} {i at_ N : Nat} {c w : Int} (h1 : Ev t1 σ H (.int c)) (h2 : Ev t2 σ H (.int (at_ : Int))) (h3 : Ev t3 σ H (.int w)) (ha : at_ ≤ 1000) (h64 : 64 ≤ N) (hN : N ≤ 2000000) (hc : Bd N c) (k : ∀ z H1, Ex H H1 → tz D (σ.set i (some (.int z))) H1) :
    tSeq (tAsg (tCall spNumber [] E (tCons t1 (tCons t2 (tCons t3 tNil)))) (gName i)) tz D σ H := h1 H (Ex.refl H) _ fun H1 e1 => h2 H1 e1 _ fun H2 e2 => h3 H2 (e1.trans e2) _ fun H3 e3 => ⟨c, at_, w, N, rfl, ha, h64, hN, hc, fun z H4 e4 => k z H4 (((e1.trans e2).trans e3).trans e4)⟩
def spSize (K : PySem.W.Frag) : Sp := fun vs H Q _ => ∃ s k f, vs = [.ref s] ∧ Sc K H s k f ∧ ∀ n : Nat, 1 ≤ n → n ≤ 12 → RetV (.int (n : Int)) H Q
theorem c__law_size (T : Blt mg) {f : Addr} {fd : FuncData} (F : Fun K "_law_size" "_law_size" s__law_size f fd) (g : mg "_law_size" = some (.ref f)) (b : Binds K fd P__law_size []) : Cl P w K mg base 1 "_law_size" (spSize K) := by
  refine ⟨f, fd, _, fn_lift (F.ok sc__law_size (fun vs H Q E h => ?_) (fun cdv A outer s H vs Q E hr h => ?_)), g, F.kp, b⟩
  · obtain ⟨s, k, f, rfl, _⟩ := h
    rfl
  · obtain ⟨s, k, f, rfl, hs, q⟩ := h
    refine ⟨_, (pss_cons (ps_set (i := 1) sc__law_size.nd rfl (by first | exact Or.inl rfl | exact Or.inr rfl) (pe_callB (k_sum K) (by rfl) T.sum (by decide +kernel) (pa_cons (pe_slice (k_sl K) (pv 0) po_none (po_some pe_int)) pa_nil))) (pss_one (ps_ret (pe_ifExp (pt_cmpR op_eq (pe_op op_mod (pv 1) pe_int) pe_int (nomark _)) (pe_op op_add pe_int (pe_op op_mod (pe_op op_fdivW (pv 1) pe_int) pe_int)) (pe_op op_add pe_int (pe_op op_mod (pv 1) pe_int)))))), ?_⟩
    refine q_asg (ev_sumL (el_cut hs (ev_var rfl))) fun H1 e1 => ?_
    generalize sumN k f = z
    have a0 := Int.emod_nonneg z (b := 5) (by decide)
    have a1 := Int.emod_lt_of_pos z (b := 5) (by decide)
    have b0 := Int.emod_nonneg (z / 16) (b := 7) (by decide)
    have b1 := Int.emod_lt_of_pos (z / 16) (b := 7) (by decide)
    refine s_ret (v := .int (((if z % 16 = 9 then 6 + (z / 16) % 7 else 1 + z % 5).toNat : Nat) : Int)) (ev_if (et_test (ev_eqI (ev_mod (ev_var rfl) ev_c (by decide)) ev_c)) (fun h => ev_is (ev_add ev_c (ev_mod (ev_fdiv (ev_var rfl) ev_c (by decide) (by decide)) ev_c (by decide))) ?_) fun h => ev_is (ev_add ev_c (ev_mod (ev_var rfl) ev_c (by decide))) ?_) fun H2 e2 => q _ (by split <;> omega) (by split <;> omega) H2 (e1.trans e2)
    · rw [if_pos (of_decide_eq_true h), Int.toNat_of_nonneg (by omega)]
    · rw [if_neg (of_decide_eq_false h), Int.toNat_of_nonneg (by omega)]
def spLTable (K : PySem.W.Frag) : Sp := fun vs H Q _ => ∃ s k f n, vs = [.ref s, .int ((n : Nat) : Int)] ∧ Sc K H s k f ∧ 1 ≤ n ∧ n ≤ 12 ∧ RetTab n H Q
theorem c__law_table (T : Blt mg) (c__law_number : Cl P w K mg base 1 "_law_number" spNumber) {f : Addr} {fd : FuncData} (F : Fun K "_law_table" "_law_table" s__law_table f fd) (g : mg "_law_table" = some (.ref f)) (b : Binds K fd P__law_table []) : Cl P w K mg base 2 "_law_table" (spLTable K) := by
  refine ⟨f, fd, _, fn_lift (F.ok sc__law_table (fun vs H Q E h => ?_) (fun cdv A outer s H vs Q E hr h => ?_)), g, F.kp, b⟩
  · obtain ⟨s, k, f, n, rfl, _⟩ := h
    rfl
  · obtain ⟨s, k, f, n, rfl, hs, n1, n12, q⟩ := h
    refine ⟨_, (pss_cons (ps_set (i := 2) sc__law_table.nd rfl (by first | exact Or.inl rfl | exact Or.inr rfl) (pe_ifExp (pt_cmpR (k_neD K hr.units) (pv 0) (pe_lst pa_nil) (nomark _)) (pe_slice (k_sl K) (pv 0) po_none (po_some pe_int)) (pe_lst (pa_cons pe_int pa_nil)))) (pss_cons (ps_set (i := 3) sc__law_table.nd rfl (by first | exact Or.inl rfl | exact Or.inr rfl) (pe_callB (k_sum K) (by rfl) T.sum (by decide +kernel) (pa_cons (pv 2) pa_nil))) (pss_cons (ps_set (i := 4) sc__law_table.nd rfl (by first | exact Or.inl rfl | exact Or.inr rfl) (pe_ix (k_ixt K) (pe_tup (pa_cons pe_int (pa_cons pe_int (pa_cons pe_int (pa_cons (pe_op op_pow pe_int pe_int) pa_nil))))) (pe_op op_mod (pe_op op_fdivW (pv 3) pe_int) pe_int) (fun _ _ => rfl))) (pss_cons (ps_set (i := 5) sc__law_table.nd rfl (by first | exact Or.inl rfl | exact Or.inr rfl) (pe_lst pa_nil)) (pss_cons (ps_for PassesOwn.never rfl (pi_range1 (by rfl) T.range (pa_cons (pv 1) pa_nil)) (pg_name (i := 6) sc__law_table.nd rfl (by first | exact Or.inl rfl | exact Or.inr rfl)) (pss_cons (ps_set (i := 7) sc__law_table.nd rfl (by first | exact Or.inl rfl | exact Or.inr rfl) (pe_lst pa_nil)) (pss_cons (ps_for PassesOwn.never rfl (pi_range1 (by rfl) T.range (pa_cons (pv 1) pa_nil)) (pg_name (i := 8) sc__law_table.nd rfl (by first | exact Or.inl rfl | exact Or.inr rfl)) (pss_cons (ps_set (i := 9) sc__law_table.nd rfl (by first | exact Or.inl rfl | exact Or.inr rfl) (pe_op op_add (pe_op op_mulX (pv 6) (pv 1)) (pv 8))) (pss_cons (ps_set (i := 10) sc__law_table.nd rfl (by first | exact Or.inl rfl | exact Or.inr rfl) (pe_k c__law_number hr (by decide) passL (by rfl) (pa_cons (pe_op op_fdivW (pe_ix (k_ix K) (pv 2) (pe_op op_mod (pv 9) (pe_callB (k_len K) (by rfl) T.len (by decide +kernel) (pa_cons (pv 2) pa_nil))) (fun _ _ => rfl)) (pe_op op_add pe_int (pe_op op_fdivW (pv 9) (pe_callB (k_len K) (by rfl) T.len (by decide +kernel) (pa_cons (pv 2) pa_nil))))) (pa_cons (pv 9) (pa_cons (pv 3) pa_nil))))) (pss_one (ps_expr (pe_bm PySem.F.plainAttrs_list PySem.F.slot_list_append PySem.F.type_list_append mt_append (pv 7) (pa_cons (pe_op op_sub (pe_op op_mod (pv 10) (pe_op op_add (pe_op op_mulX pe_int (pv 4)) pe_int)) (pv 4)) pa_nil))))))) (pss_one (ps_expr (pe_bm PySem.F.plainAttrs_list PySem.F.slot_list_append PySem.F.type_list_append mt_append (pv 5) (pa_cons (pv 7) pa_nil))))))) (pss_cons (ps_if (PW.pt (pw_and (pt_cmpR op_eq (pe_op op_mod (pe_op op_fdivW (pv 3) pe_int) pe_int) pe_int (nomark _)) (pw_and1 (pt_cmpR op_gt (pv 1) pe_int (nomark _))))) (pss_one (ps_asg (pe_callTy (k_list K) (by rfl) T.list_ (by decide +kernel) (pa_cons (pe_ix (k_ix K) (pv 5) (pe_op op_mod (pe_op op_fdivW (pv 3) pe_int) (pv 1)) (fun _ _ => rfl)) pa_nil)) (pg_sub (pv 5) (pe_op op_mod (pe_op op_fdivW (pv 3) pe_int) (pv 1)) set_list))) pss_nil) (pss_one (ps_ret (pv 5))))))))), ?_⟩
    obtain ⟨k', f', k0, k63, hbd, hcells⟩ := el_cells (ta := tVar 0) (tb := tVar 0) (σ := [some (.ref s), some (.int (n : Int)), none, none, none, none, none, none, none, none, none]) hs (ev_var rfl) (ev_var rfl)
    refine q_asgL hcells fun pc H1 npc e1 hpc => ?_
    refine q_asg (ev_sum (ev_var rfl) (sq_of hpc)) fun H2 e2 => ?_
    generalize sumN k' f' = wh
    -- wide
    have hW : ∃ W : Int, 0 < W ∧ Ev (tOp (rIxT K) (tTup (tCons (tC (.int 2)) (tCons (tC (.int 5)) (tCons (tC (.int 40)) (tCons (tOp (rI CPow fun i j => .int (i ^ j.toNat)) (tC (.int 10)) (tC (.int 30))) tNil))))) (tOp (rI (fun _ j => 0 < j) fun i j => .int (i % j)) (tOp (rI CDivW fun i j => .int (i / j)) (tVar 3) (tC (.int 60))) (tC (.int 4))))
        [some (.ref s), some (.int (n : Int)), some (.ref pc), some (.int wh), none, none, none, none, none, none, none] H2 (.int W) := by
      have hi0 := Int.emod_nonneg (wh / 60) (b := 4) (by decide)
      have hi1 := Int.emod_lt_of_pos (wh / 60) (b := 4) (by decide)
      have hu : EvU (tTup (tCons (tC (.int 2)) (tCons (tC (.int 5)) (tCons (tC (.int 40)) (tCons (tOp (rI CPow fun i j => .int (i ^ j.toNat)) (tC (.int 10)) (tC (.int 30))) tNil))))) [some (.ref s), some (.int (n : Int)), some (.ref pc), some (.int wh), none, none, none, none, none, none, none] H2 [.int 2, .int 5, .int 40, .int (10 ^ (30 : Int).toNat)] :=
        eu_tup (ea_cons ev_c (ea_cons ev_c (ea_cons ev_c (ea_cons (ev_pow ev_c ev_c (by unfold CPow; decide)) ea_nil)))) (by show 4 ≤ 100000; decide)
      have hm := ev_mod (ev_fdiv (ev_var (i := 3) (σ := [some (.ref s), some (.int (n : Int)), some (.ref pc), some (.int wh), none, none, none, none, none, none, none]) (H := H2) (v := .int wh) rfl) (ev_c (v := .int 60)) (by decide) (by decide)) (ev_c (v := .int 4)) (by decide)
      rcases (show wh / 60 % 4 = 0 ∨ wh / 60 % 4 = 1 ∨ wh / 60 % 4 = 2 ∨ wh / 60 % 4 = 3 by omega) with h | h | h | h <;> rw [h] at hm
      · exact ⟨2, by decide, ev_ixU hu hm (atI_nat (j := 0) rfl)⟩
      · exact ⟨5, by decide, ev_ixU hu hm (atI_nat (j := 1) rfl)⟩
      · exact ⟨40, by decide, ev_ixU hu hm (atI_nat (j := 2) rfl)⟩
      · exact ⟨10 ^ (30 : Int).toNat, by decide, ev_ixU hu hm (atI_nat (j := 3) rfl)⟩
    obtain ⟨W, W0, hW⟩ := hW
    refine q_asg hW fun H3 e3 => ?_
    refine q_asgL (el_lst ea_nil (Nat.zero_le _)) fun pf H4 npf e4 hpf => ?_
    have e13 := (e1.trans e2).trans e3
    have hpc3 := e3 _ _ (e2 _ _ hpc)
    -- the rows
    refine q_forR (n := n) (ea_cons (ev_var rfl) ea_nil) (by omega) (fun i σ' H' => ∃ x6 x7 x8 x9 x10 M, σ' = [some (.ref s), some (.int (n : Int)), some (.ref pc), some (.int wh), some (.int W), some (.ref pf), x6, x7, x8, x9, x10] ∧ Grow H3 pf (fun i => vl n (M i)) i H')
      (fun H5 e5 => ⟨_, _, _, _, _, fun _ _ => 0, rfl, Grow.start npf (e4.trans e5) (e5 _ _ hpf)⟩) (fun i σ' H' hi hP => ?_) fun σ' H' hP => ?_
    · obtain ⟨x6, x7, x8, x9, x10, M, rfl, hG⟩ := hP
      have hc := hG.ex _ _ hpc3
      refine q_asgL (el_lst ea_nil (Nat.zero_le _)) fun pw H5 npw e5 hpw => ?_
      -- a row
      refine q_forR (n := n) (ea_cons (ev_var rfl) ea_nil) (by omega) (fun j σ' H'' => ∃ x8 x9 x10 r, σ' = [some (.ref s), some (.int (n : Int)), some (.ref pc), some (.int wh), some (.int W), some (.ref pf), some (.int (i : Int)), some (.ref pw), x8, x9, x10] ∧ Ex H' H'' ∧ H'' pw = some (.lst (vl j r)))
        (fun H6 e6 => ⟨_, _, _, fun _ => 0, rfl, e5.trans e6, e6 _ _ hpw⟩) (fun j σ' H'' hj hP => ?_) fun σ' H'' hP => ?_
      · obtain ⟨x8, x9, x10, r, rfl, eH, hr⟩ := hP
        have hc'' : SqL K H'' pc (vl k' f') := sq_of (eH _ _ hc)
        refine q_asg (v := .int ((i * n + j : Nat) : Int)) (ev_addn (ev_muln (ev_var rfl) (ev_var rfl) (by omega)) (ev_var rfl)) fun H6 e6 => ?_
        have hat : i * n + j ≤ 1000 := by
          have : i * n ≤ 12 * 12 := Nat.mul_le_mul (by omega) n12
          omega
        have hmk : (i * n + j) % k' < k' := Nat.mod_lt _ k0
        refine q_num (at_ := i * n + j) (N := 1048576) (ev_fdiv (ev_ixl (i := (i * n + j) % k') (ev_var rfl) (ev_modn (i := i * n + j) (j := k') (ev_var rfl) (ev_lenf (ev_var rfl) (ex_l e6 hc'')) k0) (ex_l e6 hc'') hmk) (ev_add ev_c (ev_divn (i := i * n + j) (j := k') (ev_var rfl) (ev_lenf (ev_var rfl) (ex_l e6 hc'')) k0 (by omega))) (by generalize (i * n + j) / k' = d; omega) ?_) (ev_var rfl) (ev_var rfl) hat (by decide) (by decide) (bd_div (hbd _ hmk)) fun z H7 e7 => ?_
        · have := Nat.div_le_self (i * n + j) k'
          generalize (i * n + j) / k' = d at this ⊢
          omega
        · refine s_app (xs := vl j r) (e7 _ _ (e6 _ _ hr)) (ev_var rfl) (ev_sub (ev_mod (ev_var rfl) (ev_add (ev_mul ev_c (ev_var rfl) (mulok_l (by decide))) ev_c) (by omega)) (ev_var rfl)) (by rw [vf_len]; omega) fun H8 e8 => ?_
          refine ⟨_, _, _, fset r j (z % (2 * W + 1) - W), rfl, Ex.mut (((eH.trans e6).trans e7).trans e8) npw, ?_⟩
          rw [upd_same, vl_succ, fset_same]
          congr 2
          exact congrArg (· ++ _) (vf_congr fun m hm => by rw [fset_ne _ _ (by omega)])
      · obtain ⟨x8, x9, x10, r, rfl, eH, hr⟩ := hP
        obtain ⟨acc, ha, hl, hG'⟩ := hG.add (by omega) npw eH hr
        refine s_app (eH _ _ ha) (ev_var rfl) (ev_var rfl) hl fun H6 e6 => ?_
        refine ⟨_, _, _, _, _, fset M i r, rfl, ?_⟩
        · have := hG' H6 e6
          have e : (fset (fun i => vl n (M i)) i (vl n r)) = fun k => vl n (fset M i r k) := by
            funext k
            by_cases ek : k = i
            · subst ek
              rw [fset_same, fset_same]
            · rw [fset_ne _ _ ek, fset_ne _ _ ek]
          rw [e] at this
          exact this
    · obtain ⟨x6, x7, x8, x9, x10, M, rfl, hG⟩ := hP
      obtain ⟨a, h1, h2, h3⟩ := hG.at_
      have eH := e13.trans hG.ex
      have hmod : ∀ d : Int, 0 < d → ∃ m : Nat, m < n ∧ wh / d % (n : Int) = (m : Int) := fun d _ => by
        have a0 := Int.emod_nonneg (wh / d) (b := (n : Int)) (by omega)
        have a1 := Int.emod_lt_of_pos (wh / d) (b := (n : Int)) (by omega)
        exact ⟨(wh / d % (n : Int)).toNat, by omega, by omega⟩
      obtain ⟨m7, hm7, e7⟩ := hmod 7 (by decide)
      obtain ⟨m3, hm3, e3'⟩ := hmod 3 (by decide)
      refine q_when (et_and (et_test (ev_eqI (ev_mod (ev_fdiv (ev_var rfl) ev_c (by decide) (by decide)) ev_c (by decide)) ev_c)) fun _ => et_test (ev_gt (ev_var rfl) ev_c)) (fun _ H5 e5 => ?_) fun _ H5 e5 => ?_
      · -- a row as another one
        refine el_copy (ev_ixr (i := m3) (ev_var rfl) (ev_is (ev_mod (ev_fdiv (ev_var rfl) ev_c (by decide) (by decide)) (ev_var rfl) (by omega)) (by rw [e3'])) (sq_of (e5 _ _ h1)) hm3) (sq_of (e5 _ _ (h2 m3 hm3).2.1)) H5 (Ex.refl H5) _ fun pl H6 npl e6 hpl => ?_
        have h16 := e6 _ _ (e5 _ _ h1)
        refine (ev_var rfl : Ev (tVar 5) [some (.ref s), some (.int (n : Int)), some (.ref pc), some (.int wh), some (.int W), some (.ref pf), x6, x7, x8, x9, x10] H6 (.ref pf)) H6 (Ex.refl H6) _ fun H7 e7' => ?_
        refine (ev_is (ev_mod (ev_fdiv (ev_var rfl) ev_c (by decide) (by decide)) (ev_var rfl) (by omega)) (by rw [e7]) : Ev (tOp (rI (fun _ j => 0 < j) fun i j => .int (i % j)) (tOp (rI CDivW fun i j => .int (i / j)) (tVar 3) (tC (.int 7))) (tVar 1)) [some (.ref s), some (.int (n : Int)), some (.ref pc), some (.int wh), some (.int W), some (.ref pf), x6, x7, x8, x9, x10] H7 (.int (m7 : Int))) H7 (Ex.refl H7) _ fun H8 e8 => ?_
        have e68 := e7'.trans e8
        refine ⟨pf, vr n a, (m7 : Int), m7, rfl, rfl, e68 _ _ h16, ixN_nat (by rw [vf_len]; exact hm7), ?_⟩
        rw [vr_set]
        have npf' : H pf = none := fresh_back e13 hG.nd
        have eH8 := ((eH.trans e5).trans e6).trans e68
        have nlp : pl ≠ pf := fun z => by
          rw [z, e5 _ _ h1] at npl
          cases npl
        refine s_ret (ev_var rfl) fun H9 e9 => q (fset M m7 (M m3)) pf (fset a m7 pl) H9 npf' ((Ex.mut eH8 npf').trans e9) (e9 _ _ upd_same) fun i hi => ?_
        by_cases ei : i = m7
        · subst ei
          rw [fset_same, fset_same]
          exact ⟨fresh_back (eH.trans e5) npl, e9 _ _ (by rw [upd_ne nlp]; exact e68 _ _ hpl)⟩
        · rw [fset_ne _ _ ei, fset_ne _ _ ei]
          obtain ⟨q1, q2, q3⟩ := h2 i hi
          exact ⟨fresh_back e13 q1, e9 _ _ (by rw [upd_ne q3]; exact e68 _ _ (e6 _ _ (e5 _ _ q2)))⟩
      · exact s_ret (ev_var rfl) fun H6 e6 => q M pf a H6 (fresh_back e13 hG.nd) ((eH.trans e5).trans e6) (e6 _ _ (e5 _ _ h1)) fun i hi => ⟨fresh_back e13 (h2 i hi).1, e6 _ _ (e5 _ _ (h2 i hi).2.1)⟩
def spLGiving (K : PySem.W.Frag) : Sp := fun vs H Q _ => ∃ s k f n y, vs = [.ref s, .int ((n : Nat) : Int), .int ((y : Nat) : Int)] ∧ Sc K H s k f ∧ n ≤ 12 ∧ y ≤ 100 ∧ ∀ g, Pm n g → RetL (vn n g) H Q
theorem c__law_giving (T : Blt mg) (c__law_number : Cl P w K mg base 1 "_law_number" spNumber) {f : Addr} {fd : FuncData} (F : Fun K "_law_giving" "_law_giving" s__law_giving f fd) (g : mg "_law_giving" = some (.ref f)) (b : Binds K fd P__law_giving []) : Cl P w K mg base 2 "_law_giving" (spLGiving K) := by
  refine ⟨f, fd, _, fn_lift (F.ok sc__law_giving (fun vs H Q E h => ?_) (fun cdv A outer s H vs Q E hr h => ?_)), g, F.kp, b⟩
  · obtain ⟨s, k, f, n, y, rfl, _⟩ := h
    rfl
  · obtain ⟨s, k, f, n, y, rfl, hs, n12, y100, q⟩ := h
    refine ⟨_, (pss_cons (ps_set (i := 3) sc__law_giving.nd rfl (by first | exact Or.inl rfl | exact Or.inr rfl) (pe_ifExp (pt_cmpR (k_neD K hr.units) (pv 0) (pe_lst pa_nil) (nomark _)) (pe_slice (k_sl K) (pv 0) po_none (po_some pe_int)) (pe_lst (pa_cons pe_int pa_nil)))) (pss_cons (ps_set (i := 4) sc__law_giving.nd rfl (by first | exact Or.inl rfl | exact Or.inr rfl) (pe_lst pa_nil)) (pss_cons (ps_for PassesOwn.never rfl (pi_range1 (by rfl) T.range (pa_cons (pv 1) pa_nil)) (pg_name (i := 5) sc__law_giving.nd rfl (by first | exact Or.inl rfl | exact Or.inr rfl)) (pss_cons (ps_set (i := 6) sc__law_giving.nd rfl (by first | exact Or.inl rfl | exact Or.inr rfl) (pe_k c__law_number hr (by decide) passL (by rfl) (pa_cons (pe_ix (k_ix K) (pv 3) (pe_op op_mod (pe_op op_add (pv 5) (pv 2)) (pe_callB (k_len K) (by rfl) T.len (by decide +kernel) (pa_cons (pv 3) pa_nil))) (fun _ _ => rfl)) (pa_cons (pe_op op_add (pe_op op_add (pv 5) pe_int) (pv 2)) (pa_cons (pe_callB (k_len K) (by rfl) T.len (by decide +kernel) (pa_cons (pv 3) pa_nil)) pa_nil))))) (pss_one (ps_expr (pe_bm PySem.F.plainAttrs_list PySem.F.slot_list_insert PySem.F.type_list_insert mt_ins (pv 4) (pa_cons (pe_op op_mod (pv 6) (pe_op op_add (pv 5) pe_int)) (pa_cons (pv 5) pa_nil))))))) (pss_one (ps_ret (pv 4)))))), ?_⟩
    obtain ⟨k', f', k0, k63, hbd, hcells⟩ := el_cells (ta := tVar 0) (tb := tVar 0) (σ := [some (.ref s), some (.int (n : Int)), some (.int (y : Int)), none, none, none, none]) hs (ev_var rfl) (ev_var rfl)
    refine q_asgL hcells fun pc H1 npc e1 hpc => ?_
    refine q_asgL (el_lst ea_nil (Nat.zero_le _)) fun pf H2 npf e2 hpf => ?_
    refine q_forR (n := n) (ea_cons (ev_var rfl) ea_nil) (by omega) (fun i σ' H' => ∃ x5 x6 g, σ' = [some (.ref s), some (.int (n : Int)), some (.int (y : Int)), some (.ref pc), some (.ref pf), x5, x6] ∧ Ex H1 H' ∧ H' pf = some (.lst (vn i g)) ∧ Pm i g)
      (fun H3 e3 => ⟨_, _, fun _ => 0, rfl, e2.trans e3, e3 _ _ hpf, ⟨fun i hi => absurd hi (Nat.not_lt_zero i), fun i j hi => absurd hi (Nat.not_lt_zero i)⟩⟩) (fun i σ' H' hi hP => ?_) fun σ' H' hP => ?_
    · obtain ⟨x5, x6, g, rfl, eH, hf, G⟩ := hP
      have hc : SqL K H' pc (vl k' f') := sq_of (eH _ _ hpc)
      have hmk : (i + y) % k' < k' := Nat.mod_lt _ k0
      refine q_num (at_ := i + 40 + y) (N := 1048576) (ev_ixl (i := (i + y) % k') (ev_var rfl) (ev_modn (ev_addn (ev_var rfl) (ev_var rfl)) (ev_lenf (ev_var rfl) hc) k0) hc hmk) (ev_addn (ev_addn (ev_var rfl) (ev_cn (i := 40) rfl)) (ev_var rfl)) (ev_lenf (ev_var rfl) hc) (by omega) (by decide) (by decide) (hbd _ hmk) fun z H3 e3 => ?_
      have z0 := Int.emod_nonneg z (b := ((i + 1 : Nat) : Int)) (by omega)
      have z1 := Int.emod_lt_of_pos z (b := ((i + 1 : Nat) : Int)) (by omega)
      refine s_ins (j := (z % ((i + 1 : Nat) : Int)).toNat) (y := i) (e3 _ _ hf) (ev_var rfl) (ev_is (ev_mod (ev_var rfl) (ev_addn (ev_var rfl) (ev_cn (i := 1) rfl)) (by omega)) (by rw [Int.toNat_of_nonneg z0])) (ev_var rfl) (by omega) (by omega) fun H4 e4 => ?_
      exact ⟨_, _, _, rfl, Ex.mut ((eH.trans e3).trans e4) npf, upd_same, pm_ins G (by omega)⟩
    · obtain ⟨x5, x6, g, rfl, eH, hf, G⟩ := hP
      exact s_ret (ev_var rfl) fun H3 e3 => q g G pf H3 (fresh_back e1 npf) ((e1.trans eH).trans e3) (e3 _ _ hf)
def spLRent (K : PySem.W.Frag) : Sp := fun vs H Q _ => ∃ s k f y, vs = [.ref s, .int ((y : Nat) : Int)] ∧ Sc K H s k f ∧ y ≤ 100 ∧ ∀ z, RetV (.int z) H Q
theorem c__law_rent (T : Blt mg) (c__law_number : Cl P w K mg base 1 "_law_number" spNumber) {f : Addr} {fd : FuncData} (F : Fun K "_law_rent" "_law_rent" s__law_rent f fd) (g : mg "_law_rent" = some (.ref f)) (b : Binds K fd P__law_rent []) : Cl P w K mg base 2 "_law_rent" (spLRent K) := by
  refine ⟨f, fd, _, fn_lift (F.ok sc__law_rent (fun vs H Q E h => ?_) (fun cdv A outer s H vs Q E hr h => ?_)), g, F.kp, b⟩
  · obtain ⟨s, k, f, y, rfl, _⟩ := h
    rfl
  · obtain ⟨s, k, f, y, rfl, hs, y100, q⟩ := h
    refine ⟨_, (pss_cons (ps_set (i := 2) sc__law_rent.nd rfl (by first | exact Or.inl rfl | exact Or.inr rfl) (pe_ifExp (pt_cmpR (k_neD K hr.units) (pv 0) (pe_lst pa_nil) (nomark _)) (pe_slice (k_sl K) (pv 0) po_none (po_some pe_int)) (pe_lst (pa_cons pe_int pa_nil)))) (pss_cons (ps_set (i := 3) sc__law_rent.nd rfl (by first | exact Or.inl rfl | exact Or.inr rfl) (pe_k c__law_number hr (by decide) passL (by rfl) (pa_cons (pe_ix (k_ix K) (pv 2) (pe_op op_mod (pv 1) (pe_callB (k_len K) (by rfl) T.len (by decide +kernel) (pa_cons (pv 2) pa_nil))) (fun _ _ => rfl)) (pa_cons (pe_op op_add (pv 1) pe_int) (pa_cons (pe_callB (k_len K) (by rfl) T.len (by decide +kernel) (pa_cons (pv 2) pa_nil)) pa_nil))))) (pss_one (ps_ret (pe_ix (k_ixt K) (pe_tup (pa_cons (pe_op op_mod (pv 3) pe_int) (pa_cons (pe_op op_sub (pe_op op_mod (pv 3) pe_int) pe_int) (pa_cons (pe_op op_mod (pv 3) (pe_op op_pow pe_int pe_int)) (pa_cons (pe_op op_mod (pe_un un_neg (pv 3)) pe_int) pa_nil))))) (pe_op op_mod (pe_op op_fdivW (pv 3) pe_int) pe_int) (fun _ _ => rfl)))))), ?_⟩
    obtain ⟨k', f', k0, k63, hbd, hcells⟩ := el_cells (ta := tVar 0) (tb := tVar 0) (σ := [some (.ref s), some (.int (y : Int)), none, none]) hs (ev_var rfl) (ev_var rfl)
    refine q_asgL hcells fun pc H1 npc e1 hpc => ?_
    have hc : SqL K H1 pc (vl k' f') := sq_of hpc
    have hmk : y % k' < k' := Nat.mod_lt _ k0
    refine q_num (at_ := y + 17) (N := 1048576) (ev_ixl (i := y % k') (ev_var rfl) (ev_modn (ev_var rfl) (ev_lenf (ev_var rfl) hc) k0) hc hmk) (ev_addn (ev_var rfl) (ev_cn (i := 17) rfl)) (ev_lenf (ev_var rfl) hc) (by omega) (by decide) (by decide) (hbd _ hmk) fun z H2 e2 => ?_
    have e12 := e1.trans e2
    have hu : EvU _ [some (.ref s), some (.int (y : Int)), some (.ref pc), some (.int z)] H2 [.int (z % 100), .int (z % 9 - 4), .int (z % (10 ^ (30 : Int).toNat)), .int (-z % 1000)] :=
      eu_tup (ea_cons (ev_mod (ev_var (i := 3) rfl) (ev_c (v := .int 100)) (by decide)) (ea_cons (ev_sub (ev_mod (ev_var (i := 3) rfl) (ev_c (v := .int 9)) (by decide)) (ev_c (v := .int 4))) (ea_cons (ev_mod (ev_var (i := 3) rfl) (ev_pow (ev_c (v := .int 10)) (ev_c (v := .int 30)) (by unfold CPow; decide)) (by decide)) (ea_cons (ev_mod (ev_neg (ev_var (i := 3) rfl)) (ev_c (v := .int 1000)) (by decide)) ea_nil)))) (by show 4 ≤ 100000; decide)
    have hi0 := Int.emod_nonneg (z / 7) (b := 4) (by decide)
    have hi1 := Int.emod_lt_of_pos (z / 7) (b := 4) (by decide)
    have hm := ev_mod (ev_fdiv (ev_var (i := 3) (σ := [some (.ref s), some (.int (y : Int)), some (.ref pc), some (.int z)]) (H := H2) (v := .int z) rfl) (ev_c (v := .int 7)) (by decide) (by decide)) (ev_c (v := .int 4)) (by decide)
    rcases (show z / 7 % 4 = 0 ∨ z / 7 % 4 = 1 ∨ z / 7 % 4 = 2 ∨ z / 7 % 4 = 3 by omega) with h | h | h | h <;> rw [h] at hm
    · exact s_ret (ev_ixU hu hm (atI_nat (j := 0) rfl)) fun H3 e3 => q _ H3 (e12.trans e3)
    · exact s_ret (ev_ixU hu hm (atI_nat (j := 1) rfl)) fun H3 e3 => q _ H3 (e12.trans e3)
    · exact s_ret (ev_ixU hu hm (atI_nat (j := 2) rfl)) fun H3 e3 => q _ H3 (e12.trans e3)
    · exact s_ret (ev_ixU hu hm (atI_nat (j := 3) rfl)) fun H3 e3 => q _ H3 (e12.trans e3)
/-! ### a law's own look -/
def spLFit (K : PySem.W.Frag) : Sp := fun vs H Q _ => ∃ t n a M r c g p m f b, vs = [.ref t, .int r, .ref c, .ref p] ∧ Tab K H t n a M ∧ 0 < n ∧ n ≤ 12 ∧ SqL K H c (vn n g) ∧ (∀ i, i < n → g i < n) ∧ SqL K H p (vl m f) ∧ (b = true ↔ m = n ∧ Fit n M r g f) ∧ RetV (.bl b) H Q
theorem c__law_fit (T : Blt mg) {f : Addr} {fd : FuncData} (F : Fun K "_law_fit" "_law_fit" s__law_fit f fd) (g : mg "_law_fit" = some (.ref f)) (b : Binds K fd P__law_fit []) : Cl P w K mg base 1 "_law_fit" (spLFit K) := by
  refine ⟨f, fd, _, fn_lift (F.ok sc__law_fit (fun vs H Q E h => ?_) (fun cdv A outer s H vs Q E hr h => ?_)), g, F.kp, b⟩
  · obtain ⟨t, n, a, M, r, c, g, p, m, f, b, rfl, _⟩ := h
    rfl
  · obtain ⟨t, n, a, M, r, c, g, p, m, f, b, rfl, hT, n0, n12, hg, gl, hp, hb, q⟩ := h
    refine ⟨_, (pss_cons (ps_set (i := 4) sc__law_fit.nd rfl (by first | exact Or.inl rfl | exact Or.inr rfl) (pe_callB (k_len K) (by rfl) T.len (by decide +kernel) (pa_cons (pv 0) pa_nil))) (pss_cons (ps_if (PW.pt (pw_or (pt_cmpR op_ne (pe_callB (k_len K) (by rfl) T.len (by decide +kernel) (pa_cons (pv 3) pa_nil)) (pv 4) (nomark _)) (pw_or1 (pt_cmpR op_ne (pe_callB (k_sum K) (by rfl) T.sum (by decide +kernel) (pa_cons (pv 3) pa_nil)) (pe_op op_mulX (pv 4) (pv 1)) (nomark _))))) (pss_one (ps_ret pe_bl)) pss_nil) (pss_cons (ps_for PassesOwn.never rfl (pi_en K (by rfl) T.enumerate (pa_cons (pv 0) pa_nil)) (pg_t K (n := 2) rfl (pgs_cons (pg_name (i := 5) sc__law_fit.nd rfl (by first | exact Or.inl rfl | exact Or.inr rfl)) (pgs_cons (pg_name (i := 6) sc__law_fit.nd rfl (by first | exact Or.inl rfl | exact Or.inr rfl)) pgs_nil))) (pss_cons (ps_set (i := 7) sc__law_fit.nd rfl (by first | exact Or.inl rfl | exact Or.inr rfl) (pe_op op_sub (pe_op op_mulX (pv 4) (pe_ix (k_ix K) (pv 6) (pe_ix (k_ix K) (pv 2) (pv 5) (fun _ _ => rfl)) (fun _ _ => rfl))) (pe_ix (k_ix K) (pv 3) (pe_ix (k_ix K) (pv 2) (pv 5) (fun _ _ => rfl)) (fun _ _ => rfl)))) (pss_one (ps_if (pt_val (pe_callB (k_any K) (by rfl) T.any_ (by decide +kernel) (pa_cons (pe_lc (own := [("_law_room", 8)]) rfl sc__law_fit.nd (pi_range1 (by rfl) T.range (pa_cons (pv 4) pa_nil)) (blkOk_by (by kernel_rfl)) (fun _ _ _ _ _ => (pg_name (i := 8) sc__law_fit.nd rfl (by first | exact Or.inl rfl | exact Or.inr rfl))) (fun _ _ _ _ _ => pts_nil) (fun _ _ _ _ _ => (pe_cmpR op_gt (pe_op op_sub (pe_op op_mulX (pv 4) (pe_ix (k_ix K) (pv 6) (pv 8) (fun _ _ => rfl))) (pe_ix (k_ix K) (pv 3) (pv 8) (fun _ _ => rfl))) (pv 7) (nomark _)))) pa_nil))) (pss_one (ps_ret pe_bl)) pss_nil)))) (pss_one (ps_ret pe_bl))))), ?_⟩
    have no : ¬ (m = n ∧ Fit n M r g f) → b = false := fun h => by
      cases b with
      | false => rfl
      | true => exact absurd (hb.mp rfl) h
    refine q_asg (ev_lenf (ev_var rfl) hT.rows) fun H1 e1 => ?_
    refine q_when (b := !decide (m = n) || !decide (sumN m f = (n : Int) * r)) (et_or (et_is (et_test (ev_neI (ev_lenf (ev_var rfl) (ex_l e1 hp)) (ev_var rfl))) (by congr 1; exact decide_eq_decide.mpr (by omega))) fun _ => et_test (ev_neI (ev_sum (ev_var rfl) (ex_l e1 hp)) (ev_mul (ev_var rfl) (ev_var rfl) (mulok_n (by omega))))) (fun h1 H2 e2 => ?_) fun h1 H2 e2 => ?_
    · have h2 : b = false := no fun ⟨a1, F⟩ => by
        rw [Bool.or_eq_true, Bool.not_eq_true', Bool.not_eq_true', decide_eq_false_iff_not, decide_eq_false_iff_not] at h1
        rcases h1 with h1 | h1
        · exact h1 a1
        · rw [a1] at h1
          exact h1 F.sum
      subst h2
      exact s_ret ev_c fun H3 e3 => q H3 ((e1.trans e2).trans e3)
    · rw [Bool.or_eq_false_iff, Bool.not_eq_false', Bool.not_eq_false', decide_eq_true_iff, decide_eq_true_iff] at h1
      obtain ⟨hmn, hsum⟩ := h1
      subst hmn
      have e12 := e1.trans e2
      refine q_forE (ea_cons (ev_var rfl) ea_nil) (ex_l e12 hT.rows) (fun i σ' H' => ∃ x5 x6 x7 x8, σ' = [some (.ref t), some (.int r), some (.ref c), some (.ref p), some (.int (m : Int)), x5, x6, x7, x8] ∧ Ex H H' ∧ ∀ k, k < i → ∀ j, j < m → (m : Int) * M k j - f j ≤ (m : Int) * M k (g k) - f (g k))
        (fun H3 e3 => ⟨_, _, _, _, rfl, e12.trans e3, fun k hk => absurd hk (Nat.not_lt_zero k)⟩) (fun i σ' H' _ ⟨_, _, _, _, _, e, _⟩ => ex_l e hT.rows) (fun i σ' H' H3 hi hP e3 => ?_) fun σ' H' hP => ?_
      · obtain ⟨x5, x6, x7, x8, rfl, eH, hk⟩ := hP
        have eH3 := eH.trans e3
        have hgi := gl i hi
        have hig : ∀ {H4} {σ : L2.St}, Ex H3 H4 → σ[2]? = some (some (.ref c)) → σ[5]? = some (some (.int (i : Int))) → Ev (tOp (rIxL K) (tVar 2) (tVar 5)) σ H4 (.int ((g i : Nat) : Int)) := fun e a b => ev_ixn (ev_var a) (ev_var b) (ex_l (eH3.trans e) hg) hi
        refine q_asg (ev_sub (ev_mul (ev_var rfl) (ev_ixl (i := g i) (ev_var rfl) (hig (Ex.refl H3) rfl rfl) (ex_l eH3 (hT.row i hi)) hgi) (mulok_n (by omega))) (ev_ixl (i := g i) (ev_var rfl) (hig (Ex.refl H3) rfl rfl) (ex_l eH3 hp) hgi)) fun H4 e4 => ?_
        have eH4 := eH3.trans e4
        refine s_when (b := (bf m fun j => decide ((m : Int) * M i (g i) - f (g i) < (m : Int) * M i j - f j)).any id) (et_B (ev_anyL (bs := bf m fun j => decide ((m : Int) * M i (g i) - f (g i) < (m : Int) * M i j - f j)) ?_)) (fun h1 H5 e5 => ?_) fun h1 H5 e5 => ?_
        · rw [← vf_bf]
          exact el_lcR (n := m) _ (ea_cons (ev_var rfl) ea_nil) (by omega) (fun _ => rfl) fun j H5 e5 hj => ev_gt (ev_sub (ev_mul (ev_var rfl) (ev_ixl (ev_var rfl) (ev_var rfl) (ex_l (eH4.trans e5) (hT.row i hi)) hj) (mulok_n (by omega))) (ev_ixl (ev_var rfl) (ev_var rfl) (ex_l (eH4.trans e5) hp) hj)) (ev_var rfl)
        · have h2 : b = false := no fun ⟨_, F⟩ => by
            obtain ⟨j, hj, h3⟩ := bf_any.mp h1
            have := of_decide_eq_true h3
            have := F.no i j hi hj
            omega
          subst h2
          exact s_ret ev_c fun H6 e6 => q H6 ((eH4.trans e5).trans e6)
        · refine ⟨_, _, _, _, rfl, eH4.trans e5, fun k hk' j hj => ?_⟩
          by_cases ek : k = i
          · rw [ek]
            refine Classical.byContradiction fun hc => ?_
            have : (bf m fun j => decide ((m : Int) * M i (g i) - f (g i) < (m : Int) * M i j - f j)).any id = true := bf_any.mpr ⟨j, hj, decide_eq_true (by omega)⟩
            rw [h1] at this
            cases this
          · exact hk k (by omega) j hj
      · obtain ⟨x5, x6, x7, x8, rfl, eH, hk⟩ := hP
        have h2 : b = true := hb.mpr ⟨rfl, hsum, fun i j hi hj => hk i hi j hj⟩
        subst h2
        exact s_ret ev_c fun H6 e6 => q H6 (eH.trans e6)
theorem ev_lfit {t1 t2 t3 t4 : TE} {σ : L2.St} {H : Hp} {E : XK} {t c p : Addr} {n m : Nat} {a : Nat → Addr} {M : Nat → Nat → Int} {r : Int} {g : Nat → Nat} {f : Nat → Int} {b : Bool} (h1 : Ev t1 σ H (.ref t)) (h2 : Ev t2 σ H (.int r)) (h3 : Ev t3 σ H (.ref c)) (h4 : Ev t4 σ H (.ref p))
    (hT : Tab K H t n a M) (n0 : 0 < n) (n12 : n ≤ 12) (hg : SqL K H c (vn n g)) (gl : ∀ i, i < n → g i < n) (hp : SqL K H p (vl m f)) (hb : b = true ↔ m = n ∧ Fit n M r g f) : Ev (tCall (spLFit K) [] E (tCons t1 (tCons t2 (tCons t3 (tCons t4 tNil))))) σ H (.bl b) :=
  ev_call (ea_cons h1 (ea_cons h2 (ea_cons h3 (ea_cons h4 ea_nil)))) fun H1 e Q q E => ⟨t, n, a, M, r, c, g, p, m, f, b, rfl, hT.mono e, n0, n12, ex_l e hg, gl, ex_l e hp, hb, q⟩
def spLNums (K : PySem.W.Frag) : Sp := fun vs H Q _ => ∃ p m f k, vs = [.ref p, .int ((k : Nat) : Int)] ∧ SqL K H p (vl m f) ∧ m ≤ 1000 ∧ RetV (.bl (decide (m = k))) H Q
theorem c__law_numbers (T : Blt mg) {f : Addr} {fd : FuncData} (F : Fun K "_law_numbers" "_law_numbers" s__law_numbers f fd) (g : mg "_law_numbers" = some (.ref f)) (b : Binds K fd P__law_numbers []) : Cl P w K mg base 1 "_law_numbers" (spLNums K) := by
  refine ⟨f, fd, _, fn_lift (F.ok sc__law_numbers (fun vs H Q E h => ?_) (fun cdv A outer s H vs Q E hr h => ?_)), g, F.kp, b⟩
  · obtain ⟨p, m, f, k, rfl, _⟩ := h
    rfl
  · obtain ⟨p, m, f, k, rfl, hp, hm, q⟩ := h
    refine ⟨_, (pss_cons (ps_if (PW.pt (pw_or (pt_not (pt_val (pe_callB (k_isi K) (by rfl) T.isinstance (by decide +kernel) (pa_cons (pv 0) (pa_cons (pe_bltn (v := .ty "list") (by rfl) T.list_ (by decide +kernel) rfl) pa_nil))))) (pw_or1 (pt_cmpR op_ne (pe_callB (k_len K) (by rfl) T.len (by decide +kernel) (pa_cons (pv 0) pa_nil)) (pv 1) (nomark _))))) (pss_one (ps_ret pe_bl)) pss_nil) (pss_one (ps_ret (pe_callB (k_all K) (by rfl) T.all_ (by decide +kernel) (pa_cons (pe_lc (own := [("_law_one", 2)]) rfl sc__law_numbers.nd (pi_l K (pv 0)) (blkOk_by (by kernel_rfl)) (fun _ _ _ _ _ => (pg_name (i := 2) sc__law_numbers.nd rfl (by first | exact Or.inl rfl | exact Or.inr rfl))) (fun _ _ _ _ _ => pts_nil) (fun _ _ _ _ _ => (pe_and (pe_callB (k_isi K) (by rfl) T.isinstance (by decide +kernel) (pa_cons (pv 2) (pa_cons (pe_bltn (v := .ty "int") (by rfl) T.int (by decide +kernel) rfl) pa_nil))) (pe_one (pe_not (pe_callB (k_isi K) (by rfl) T.isinstance (by decide +kernel) (pa_cons (pv 2) (pa_cons (pe_bltn (v := .ty "bool") (by rfl) T.bool (by decide +kernel) rfl) pa_nil)))))))) pa_nil))))), ?_⟩
    refine q_when (b := !decide (m = k)) (et_is (et_or (a := false) (et_not (et_B (ev_isi (N := "list") (b := true) (ev_var rfl) (tyx_list hp) (by decide +kernel)))) fun _ => et_test (ev_neI (ev_lenf (ev_var rfl) hp) (ev_var rfl))) ?_) (fun h1 H1 e1 => ?_) fun h1 H1 e1 => ?_
    · rw [Bool.false_or]
      congr 1
      exact decide_eq_decide.mpr (by omega)
    · rw [show decide (m = k) = false from Bool.not_eq_true' _ |>.mp h1] at q
      exact s_ret ev_c fun H2 e2 => q H2 (e1.trans e2)
    · rw [show decide (m = k) = true from Bool.not_eq_false' _ |>.mp h1] at q
      refine s_ret (ev_is (ev_allL (bs := bf m fun _ => true) ?_) ?_) fun H2 e2 => q H2 (e1.trans e2)
      · rw [← vf_bf]
        exact el_lc _ (ev_var rfl) (ex_l e1 hp) (by omega) (fun _ => rfl) fun i H2 e2 hi => ev_andV (a := true) (b := true) (ev_isi (N := "int") (ev_var rfl) (.base (.int _)) (by decide +kernel)) fun _ => ev_is (ev_notV (a := false) (ev_isi (N := "bool") (ev_var rfl) (.base (.int _)) (by decide +kernel))) rfl
      · congr 1
        exact bf_all.mpr fun _ _ => rfl
theorem ev_lnums {ta tb : TE} {σ : L2.St} {H : Hp} {E : XK} {p : Addr} {m k : Nat} {f : Nat → Int} (h1 : Ev ta σ H (.ref p)) (h2 : Ev tb σ H (.int (k : Int))) (hp : SqL K H p (vl m f)) (hm : m ≤ 1000) : Ev (tCall (spLNums K) [] E (tCons ta (tCons tb tNil))) σ H (.bl (decide (m = k))) :=
  ev_call (ea_cons h1 (ea_cons h2 ea_nil)) fun H1 e Q q E => ⟨p, m, f, k, rfl, ex_l e hp, hm, q⟩
end
end RW
namespace RW
open PySem PySem.Spec PyProof.Rows L2 Evl RP
section
variable {P : Program} {w : World} {K : PySem.W.Frag} {mg : Str → Option Value} {base : Heap}
/-! ### calls with what is asked for -/
/-- what a law is handed, and says -/
def spLaw (K : PySem.W.Frag) : Sp := fun vs H Q _ => ∃ s k f, vs = [.ref s] ∧ Sc K H s k f ∧ RetV (.bl true) H Q
theorem askT_good {C t : Addr} {n : Nat} {a : Nat → Addr} {M : Nat → Nat → Int} {H : Hp} {E : XK} {k : Addr → Nat → (Nat → Addr) → (Nat → Nat → Int) → Prop} (hT : Tab K H t n a M) (n0 : 0 < n) (n12 : n ≤ 12) (h : k t n a M) : AskT K C (.ref t) H E k := Or.inr ⟨t, n, a, M, rfl, hT, n0, n12, h⟩
theorem askR_good {C : Addr} {z : Int} {H : Hp} {E : XK} {k : Int → Prop} (h : k z) : AskR K C (.int z) H E k := Or.inr ⟨z, rfl, h⟩
theorem askG_good {C c : Addr} {n : Nat} {g : Nat → Nat} {H : Hp} {E : XK} {k : Addr → (Nat → Nat) → Prop} (hc : SqL K H c (vn n g)) (G : Pm n g) (h : k c g) : AskG K C n (.ref c) H E k := Or.inr ⟨c, g, rfl, hc, G, h⟩
theorem askP_good {C c : Addr} {n : Nat} {f : Nat → Int} {H : Hp} {E : XK} {k : Addr → (Nat → Int) → Prop} (hc : SqL K H c (vl n f)) (h : k c f) : AskP K C n (.ref c) H E k := Or.inr ⟨c, f, rfl, hc, h⟩
theorem em_copy {ta : TE} {σ : L2.St} {H : Hp} {t : Addr} {n j : Nat} {vs : List Nat} {a : Nat → Addr} {M : Nat → Nat → Int} (h : Ev ta σ H (.ref t)) (hT : Tab K H t n a M) (n12 : n ≤ 12) (hw : ∀ x, wipe ((wipe σ vs).set j (some x)) vs = wipe σ vs) (hj : ∀ x, ((wipe σ vs).set j (some x))[j]? = some (some x)) :
    EvM (tLc (iList K ta) (gName j) tYes (tCB (rListS K) (tCons (tVar j) tNil)) vs) σ H n fun i => vl n (M i) :=
  em_lc _ h hT.rows (by omega) hw fun i H1 e hi => el_copy (ev_var (hj _)) (ex_l e (hT.row i hi))
theorem ev_worth {t1 t2 : TE} {σ : L2.St} {H : Hp} {E : XK} {CT CG t c : Addr} {n : Nat} {a : Nat → Addr} {M : Nat → Nat → Int} {g : Nat → Nat} (h1 : Ev t1 σ H (.ref t)) (h2 : Ev t2 σ H (.ref c)) (hT : Tab K H t n a M) (n0 : 0 < n) (n12 : n ≤ 12) (hc : SqL K H c (vn n g)) (G : Pm n g) :
    Ev (tCall (spWorth K CT CG) [] E (tCons t1 (tCons t2 tNil))) σ H (.int (Wor n M g)) :=
  ev_call (ea_cons h1 (ea_cons h2 ea_nil)) fun H1 e Q q E => ⟨.ref t, .ref c, rfl, askT_good (hT.mono e) n0 n12 (askG_good (ex_l e hc) G q)⟩
theorem ev_fit {t1 t2 t3 t4 : TE} {σ : L2.St} {H : Hp} {E : XK} {CT CR CG CP t c p : Addr} {n : Nat} {a : Nat → Addr} {M : Nat → Nat → Int} {g : Nat → Nat} {f : Nat → Int} {r : Int} {b : Bool} (h1 : Ev t1 σ H (.ref t)) (h2 : Ev t2 σ H (.int r)) (h3 : Ev t3 σ H (.ref c)) (h4 : Ev t4 σ H (.ref p))
    (hT : Tab K H t n a M) (n0 : 0 < n) (n12 : n ≤ 12) (hc : SqL K H c (vn n g)) (G : Pm n g) (hp : SqL K H p (vl n f)) (hb : b = true ↔ Fit n M r g f) : Ev (tCall (spFit K CT CR CG CP) [] E (tCons t1 (tCons t2 (tCons t3 (tCons t4 tNil))))) σ H (.bl b) :=
  ev_call (ea_cons h1 (ea_cons h2 (ea_cons h3 (ea_cons h4 ea_nil)))) fun H1 e Q q E => ⟨.ref t, .int r, .ref c, .ref p, rfl, askT_good (hT.mono e) n0 n12 (askR_good (askG_good (ex_l e hc) G (askP_good (ex_l e hp) ⟨b, hb, q⟩)))⟩
theorem elp_giving {t1 t2 t3 : TE} {σ : L2.St} {H : Hp} {E : XK} {s k n y : Nat} {f : Nat → Int} (h1 : Ev t1 σ H (.ref s)) (h2 : Ev t2 σ H (.int (n : Int))) (h3 : Ev t3 σ H (.int (y : Int))) (hs : Sc K H s k f) (n12 : n ≤ 12) (y1 : y ≤ 100) :
    EvLP (tCall (spLGiving K) [] E (tCons t1 (tCons t2 (tCons t3 tNil)))) σ H fun xs => ∃ g, Pm n g ∧ xs = vn n g := fun H1 e Q q => h1 H1 e _ fun H2 e2 => h2 H2 (e.trans e2) _ fun H3 e3 => h3 H3 ((e.trans e2).trans e3) _ fun H4 e4 =>
  ⟨s, k, f, n, y, rfl, hs.mono (((e.trans e2).trans e3).trans e4), n12, y1, fun g G p H5 np e5 hp => q p H5 _ ⟨g, G, rfl⟩ (fresh_back ((e2.trans e3).trans e4) np) (((e2.trans e3).trans e4).trans e5) hp⟩
/-- x = settled(table, rent) -/
theorem q_settled {t1 t2 : TE} {tz : TS} {D : Ends} {σ : L2.St} {H : Hp} {E : XK} {CT CR CS t : Addr} {i n : Nat} {a : Nat → Addr} {M : Nat → Nat → Int} {r : Int} (h1 : Ev t1 σ H (.ref t)) (h2 : Ev t2 σ H (.int r)) (hT : Tab K H t n a M) (n0 : 0 < n) (n12 : n ≤ 12)
    (k : ∀ g f p l m H1, Pm n g → Fit n M r g f → H p = none → H l = none → H m = none → l ≠ m → Ex H H1 → Ob2 CS H1 p l m (vn n g) (vl n f) → tz D (σ.set i (some (.ref p))) H1) : tSeq (tAsg (tCall (spSettled K CT CR CS) [] E (tCons t1 (tCons t2 tNil))) (gName i)) tz D σ H :=
  h1 H (Ex.refl H) _ fun H1 e1 => h2 H1 e1 _ fun H2 e2 => ⟨.ref t, .int r, rfl, askT_good (hT.mono (e1.trans e2)) n0 n12 (askR_good fun g f G F p l m H3 np nl nm lm e3 o =>
    k g f p l m H3 G F (fresh_back (e1.trans e2) np) (fresh_back (e1.trans e2) nl) (fresh_back (e1.trans e2) nm) lm ((e1.trans e2).trans e3) o)⟩
theorem q_size {t1 : TE} {tz : TS} {D : Ends} {σ : L2.St} {H : Hp} {E : XK} {i s k : Nat} {f : Nat → Int} (h1 : Ev t1 σ H (.ref s)) (hs : Sc K H s k f) (kk : ∀ (n : Nat) H1, 1 ≤ n → n ≤ 12 → Ex H H1 → tz D (σ.set i (some (.int (n : Int)))) H1) : tSeq (tAsg (tCall (spSize K) [] E (tCons t1 tNil)) (gName i)) tz D σ H :=
  h1 H (Ex.refl H) _ fun H1 e1 => ⟨s, k, f, rfl, hs.mono e1, fun n n1 n12 H2 e2 => kk n H2 n1 n12 (e1.trans e2)⟩
theorem q_table {t1 t2 : TE} {tz : TS} {D : Ends} {σ : L2.St} {H : Hp} {E : XK} {i s k n : Nat} {f : Nat → Int} (h1 : Ev t1 σ H (.ref s)) (h2 : Ev t2 σ H (.int (n : Int))) (hs : Sc K H s k f) (n1 : 1 ≤ n) (n12 : n ≤ 12) (kk : ∀ M p a H1, H p = none → Ex H H1 → Tab K H1 p n a M → tz D (σ.set i (some (.ref p))) H1) :
    tSeq (tAsg (tCall (spLTable K) [] E (tCons t1 (tCons t2 tNil))) (gName i)) tz D σ H :=
  h1 H (Ex.refl H) _ fun H1 e1 => h2 H1 e1 _ fun H2 e2 => ⟨s, k, f, n, rfl, hs.mono (e1.trans e2), n1, n12, fun M p a H3 np e3 hp hr => kk M p a H3 (fresh_back (e1.trans e2) np) ((e1.trans e2).trans e3) (tab_of hp fun i hi => (hr i hi).2)⟩
theorem q_rent {t1 t2 : TE} {tz : TS} {D : Ends} {σ : L2.St} {H : Hp} {E : XK} {i s k y : Nat} {f : Nat → Int} (h1 : Ev t1 σ H (.ref s)) (h2 : Ev t2 σ H (.int (y : Int))) (hs : Sc K H s k f) (y1 : y ≤ 100) (kk : ∀ z H1, Ex H H1 → tz D (σ.set i (some (.int z))) H1) : tSeq (tAsg (tCall (spLRent K) [] E (tCons t1 (tCons t2 tNil))) (gName i)) tz D σ H :=
  h1 H (Ex.refl H) _ fun H1 e1 => h2 H1 e1 _ fun H2 e2 => ⟨s, k, f, y, rfl, hs.mono (e1.trans e2), y1, fun z H3 e3 => kk z H3 ((e1.trans e2).trans e3)⟩
theorem et_no {t : TT} {σ : L2.St} {H : Hp} (h : EvT t σ H true) : EvT (tNot t) σ H false := et_not h
theorem ob2_cells {CS p l m : Addr} {xs ys : List V} {H H1 : Hp} (np : H p = none) (nl : H l = none) (nm : H m = none) (lm : l ≠ m) (e : Ex H H1) (o : Ob2 CS H1 p l m xs ys) : ∃ dx, Cells H H1 [(m, .lst ys), (l, .lst xs), (p, .ins CS dx [("rooms", .ref l), ("prices", .ref m)])] := by
  obtain ⟨dx, a, b, c⟩ := o
  have pl : l ≠ p := fun z => by
    rw [z, a] at b
    cases b
  have pm : m ≠ p := fun z => by
    rw [z, a] at c
    cases c
  refine ⟨dx, e, ?_, fun q hq => ?_, fun q hq => ?_⟩
  · simp only [List.map_cons, List.map_nil, List.nodup_cons, List.mem_cons, List.not_mem_nil, or_false, not_or, List.nodup_nil, and_true, not_false_eq_true]
    exact ⟨⟨Ne.symm lm, pm⟩, pl⟩
  · rcases List.mem_cons.mp hq with rfl | hq
    · exact c
    · rcases List.mem_cons.mp hq with rfl | hq
      · exact b
      · rcases List.mem_cons.mp hq with rfl | hq
        · exact a
        · cases hq
  · rcases List.mem_cons.mp hq with rfl | hq
    · exact nm
    · rcases List.mem_cons.mp hq with rfl | hq
      · exact nl
      · rcases List.mem_cons.mp hq with rfl | hq
        · exact np
        · cases hq
theorem ob1_cells {C p l : Addr} {f : Str} {xs : List V} {H H1 : Hp} (np : H p = none) (nl : H l = none) (e : Ex H H1) (o : Ob1 C f H1 p l xs) : ∃ dx, Cells H H1 [(l, .lst xs), (p, .ins C dx [(f, .ref l)])] := by
  obtain ⟨dx, a, b⟩ := o
  have pl : l ≠ p := fun z => by
    rw [z, a] at b
    cases b
  refine ⟨dx, e, ?_, fun q hq => ?_, fun q hq => ?_⟩
  · simp only [List.map_cons, List.map_nil, List.nodup_cons, List.mem_cons, List.not_mem_nil, or_false, List.nodup_nil, and_true, not_false_eq_true]
    exact pl
  · rcases List.mem_cons.mp hq with rfl | hq
    · exact b
    · rcases List.mem_cons.mp hq with rfl | hq
      · exact a
      · cases hq
  · rcases List.mem_cons.mp hq with rfl | hq
    · exact nl
    · rcases List.mem_cons.mp hq with rfl | hq
      · exact np
      · cases hq
theorem cells_new2 {H0 H H1 : Hp} {L : List (Addr × HO)} (c : Cells H0 H L) {p q : Addr} {o o' : HO} (np : H p = none) (nq : H q = none) (hpq : p ≠ q) (e : Ex H H1) (hp : H1 p = some o) (hq : H1 q = some o') : Cells H0 H1 ((p, o) :: (q, o') :: L) := by
  have h : ∀ a, H a = none → a ∉ L.map Prod.fst := fun a na hm => by
    obtain ⟨r, hr, rfl⟩ := List.mem_map.mp hm
    rw [c.at_ r hr] at na
    cases na
  refine ⟨c.ex.trans e, ?_, fun r hr => ?_, fun r hr => ?_⟩
  · refine List.nodup_cons.mpr ⟨fun hm => ?_, List.nodup_cons.mpr ⟨h q nq, c.nd⟩⟩
    rcases List.mem_cons.mp hm with hm | hm
    · exact hpq hm
    · exact h p np hm
  · rcases List.mem_cons.mp hr with rfl | hr
    · exact hp
    · rcases List.mem_cons.mp hr with rfl | hr
      · exact hq
      · exact e _ _ (c.at_ r hr)
  · rcases List.mem_cons.mp hr with rfl | hr
    · exact fresh_back c.ex np
    · rcases List.mem_cons.mp hr with rfl | hr
      · exact fresh_back c.ex nq
      · exact c.fr r hr
theorem vl_app {n : Nat} {f : Nat → Int} {z : Int} : vl n f ++ [.int z] = vl (n + 1) (fset f n z) := by
  rw [vl_succ, fset_same]
  congr 1
  exact vf_congr fun i hi => by rw [fset_ne _ _ (by omega)]
theorem ev_neT {ta tb : TE} {σ : L2.St} {H : Hp} {t s : Addr} {n : Nat} {a b : Nat → Addr} {M M' : Nat → Nat → Int} (h1 : Ev ta σ H (.ref t)) (h2 : Ev tb σ H (.ref s)) (hT : Tab K H t n a M) (hS : Tab K H s n b M') (e : ∀ i j, i < n → j < n → M i j = M' i j) : Ev (tOp (rNeD K) ta tb) σ H (.bl false) :=
  ev_is (ev_neD h1 h2 hT.dp hS.dp (flat_shaped (flat_dM n M) (by decide)) (flat_shaped (flat_dM n M') (by decide))) (by rw [eqv_dM e]; rfl)
theorem ev_neL {ta tb : TE} {σ : L2.St} {H : Hp} {t s : Addr} {n m : Nat} {f g : Nat → Int} (h1 : Ev ta σ H (.ref t)) (h2 : Ev tb σ H (.ref s)) (hT : SqL K H t (vl n f)) (hS : SqL K H s (vl m g)) : Ev (tOp (rNeD K) ta tb) σ H (.bl (!decide (il n f = il m g))) :=
  ev_is (ev_neD h1 h2 (dp_ints hT) (dp_ints hS) (dI_shaped _) (dI_shaped _)) (by rw [eqv_ints])
end
end RW
namespace RW
open PySem PySem.Spec PyProof.Rows L2 Evl RP
section
variable {P : Program} {w : World} {K : PySem.W.Frag} {mg : Str → Option Value} {base : Heap}
/-! ### readings that k01, k03, k05, k06 ask for -/
theorem ev_ixt {ta tb : TE} {σ : L2.St} {H : Hp} {v : V} {p : Addr} {xs : List V} {i : Int} (ha : Ev ta σ H (.ref p)) (hb : Ev tb σ H (.int i)) (h : SqT K H p xs) (hi : atI xs i = some v) : Ev (tOp (rIxT K) ta tb) σ H v := ev_op ha hb (rv_ixT h hi)
theorem ev_anyV {ta : TE} {σ : L2.St} {H : Hp} {p : Addr} {bs : List Bool} (ha : Ev ta σ H (.ref p)) (h : SqL K H p (bs.map V.bl)) : Ev (tCB (rAny K) (tCons ta tNil)) σ H (.bl (bs.any id)) := fun H1 e Q q => ha H1 e _ fun H2 e2 => ⟨p, bs, rfl, ex_l (e.trans e2) h, q H2 e2⟩
theorem el_catV {ta tb : TE} {σ : L2.St} {H : Hp} {p : Addr} {xs ys : List V} (ha : Ev ta σ H (.ref p)) (hp : H p = some (.lst xs)) (hb : EvL tb σ H ys) (hl : xs.length + ys.length ≤ 100000) : EvL (tOp rCat ta tb) σ H (xs ++ ys) := fun H1 e Q q => ha H1 e _ fun H2 e2 => hb H2 (e.trans e2) _ fun p2 H3 np2 e3 hp2 =>
  ⟨p, p2, xs, ys, rfl, rfl, e3 _ _ (e2 _ _ (e _ _ hp)), hp2, by unfold sizeLine; omega, fun r hr => q r _ (fresh_back (e2.trans e3) hr) ((e2.trans e3).trans (Ex.new hr)) upd_same⟩
theorem q_par {i j : Nat} {ta : TA} {tz : TS} {D : Ends} {σ : L2.St} {H : Hp} {v x : V} (h : EvA ta σ H [v, x]) (k : ∀ H1, Ex H H1 → tz D ((σ.set i (some v)).set j (some x)) H1) : tSeq (tPar i j ta) tz D σ H := h H (Ex.refl H) _ fun H1 e => ⟨v, x, rfl, k H1 e⟩
theorem pm_swap {n i j : Nat} {g : Nat → Nat} (G : Pm n g) (hi : i < n) (hj : j < n) : Pm n (fset (fset g i (g j)) j (g i)) := by
  have val : ∀ k, fset (fset g i (g j)) j (g i) k = g (if k = j then i else if k = i then j else k) := fun k => by
    by_cases h : k = j
    · rw [h, fset_same, if_pos rfl]
    · rw [fset_ne _ _ h, if_neg h]
      by_cases h2 : k = i
      · rw [h2, fset_same, if_pos rfl]
      · rw [fset_ne _ _ h2, if_neg h2]
  refine ⟨fun k hk => ?_, fun a b ha hb e => ?_⟩
  · rw [val]
    refine G.lt _ ?_
    split
    · exact hi
    · split
      · exact hj
      · exact hk
  · rw [val, val] at e
    have hl : ∀ k, k < n → (if k = j then i else if k = i then j else k) < n := fun k hk => by
      split
      · exact hi
      · split
        · exact hj
        · exact hk
    have e2 := G.inj _ _ (hl a ha) (hl b hb) e
    split at e2 <;> split at e2 <;> (try split at e2) <;> (try split at e2) <;> omega
/-- l[i], l[j] = l[j], l[i] -/
theorem q_swap {t1 t2 t3 t4 t5 t6 t7 t8 : TE} {tz : TS} {D : Ends} {σ : L2.St} {H : Hp} {l : Addr} {n i j : Nat} {g : Nat → Nat} (hl : H l = some (.lst (vn n g))) (hi : i < n) (hj : j < n) (a1 : Ev t1 σ H (.ref l)) (a2 : Ev t2 σ H (.int (j : Int))) (a3 : Ev t3 σ H (.ref l)) (a4 : Ev t4 σ H (.int (i : Int)))
    (b1 : ∀ H1, Ev t5 σ H1 (.ref l)) (b2 : ∀ H1, Ev t6 σ H1 (.int (i : Int))) (b3 : ∀ H1, Ev t7 σ H1 (.ref l)) (b4 : ∀ H1, Ev t8 σ H1 (.int (j : Int))) (k : ∀ H1 H2, Ex H H1 → Ex (upd H1 l (.lst (vn n (fset g i (g j))))) H2 → tz D σ (upd H2 l (.lst (vn n (fset (fset g i (g j)) j (g i)))))) :
    tSeq (tAsg (tTup (tCons (tOp (rIxL K) t1 t2) (tCons (tOp (rIxL K) t3 t4) tNil))) (gTup K 2 (gCons (gSub t5 t6 rSetL) (gCons (gSub t7 t8 rSetL) gNil)))) tz D σ H := by
  have hu : EvU (tTup (tCons (tOp (rIxL K) t1 t2) (tCons (tOp (rIxL K) t3 t4) tNil))) σ H [.int ((g j : Nat) : Int), .int ((g i : Nat) : Int)] := eu_tup (ea_cons (ev_ixn a1 a2 (sq_of hl) hj) (ea_cons (ev_ixn a3 a4 (sq_of hl) hi) ea_nil)) (by show 2 ≤ 100000; decide)
  unfold tSeq tAsg
  refine hu H (Ex.refl H) _ fun p H1 np e1 hp => ⟨p, _, rfl, st_of hp, rfl, _, _, rfl, b1 H1 H1 (Ex.refl H1) _ fun H2 e2 => b2 H2 H2 (Ex.refl H2) _ fun H3 e3 => ?_⟩
  refine ⟨l, _, (i : Int), i, rfl, rfl, e3 _ _ (e2 _ _ (e1 _ _ hl)), ixN_nat (by rw [vf_len]; exact hi), _, _, rfl, ?_⟩
  rw [vn_set]
  refine b3 _ _ (Ex.refl _) _ fun H4 e4 => b4 H4 H4 (Ex.refl H4) _ fun H5 e5 => ⟨l, _, (j : Int), j, rfl, rfl, e5 _ _ (e4 _ _ upd_same), ixN_nat (by rw [vf_len]; exact hj), rfl, ?_⟩
  rw [vn_set]
  exact k H3 H5 ((e1.trans e2).trans e3) (e4.trans e5)
/-- a list of givings, written out -/
def EvGs (K : PySem.W.Frag) (n : Nat) (ta : TA) (σ : L2.St) (H : Hp) (k : Nat) : Prop := ∀ H1, Ex H H1 → ∀ Q : List V → Hp → Prop, (∀ us H2, Ex H1 H2 → us.length = k → (∀ (i : Nat) (u : V), us[i]? = some u → ∃ (c : Addr) (g : Nat → Nat), u = V.ref c ∧ SqL K H2 c (vn n g) ∧ Pm n g) → Q us H2) → ta σ H1 Q
theorem egs_nil {n : Nat} {σ : L2.St} {H : Hp} : EvGs K n tNil σ H 0 := fun H1 _ _ q => q [] H1 (Ex.refl H1) rfl fun i u e => nomatch e
theorem egs_one {n k : Nat} {te : TE} {tr : TA} {σ : L2.St} {H : Hp} {c : Addr} {g : Nat → Nat} (h : Ev te σ H (.ref c)) (hc : SqL K H c (vn n g)) (G : Pm n g) (hr : EvGs K n tr σ H k) : EvGs K n (tCons te tr) σ H (k + 1) := fun H1 e _ q => h H1 e _ fun H2 e2 => hr H2 (e.trans e2) _ fun us H3 e3 hl hu =>
  q _ H3 (e2.trans e3) (by rw [List.length_cons, hl]) fun i u hi => by
    cases i with
    | zero =>
      cases hi
      exact ⟨c, g, rfl, ex_l ((e.trans e2).trans e3) hc, G⟩
    | succ i => exact hu i u hi
theorem egs_new {n k : Nat} {te : TE} {tr : TA} {σ : L2.St} {H : Hp} {S : List V → Prop} (h : EvLP te σ H S) (hS : ∀ xs, S xs → ∃ g, Pm n g ∧ xs = vn n g) (hr : EvGs K n tr σ H k) : EvGs K n (tCons te tr) σ H (k + 1) := fun H1 e _ q => h H1 e _ fun p H2 xs hx _ e2 hp => hr H2 (e.trans e2) _ fun us H3 e3 hl hu =>
  q _ H3 (e2.trans e3) (by rw [List.length_cons, hl]) fun i u hi => by
    cases i with
    | zero =>
      cases hi
      obtain ⟨g, G, rfl⟩ := hS xs hx
      exact ⟨p, g, rfl, sq_of (e3 _ _ hp), G⟩
    | succ i => exact hu i u hi
theorem s_forGs {n k j0 : Nat} {tr : TA} {tu : TS} {D : Ends} {σ : L2.St} {H : Hp} (h : EvGs K n tr σ H k) (hn : k ≤ 1000) (Pv : Hp → L2.St → Hp → Prop) (h0 : ∀ H1 H2, Ex H H1 → Ex H1 H2 → Pv H1 σ H2) (hx : ∀ H1 σ' H', Ex H H1 → Pv H1 σ' H' → Ex H1 H')
    (hs : ∀ H1 c g σ' H', Ex H H1 → SqL K H1 c (vn n g) → Pm n g → Pv H1 σ' H' → tu { D with nx := Pv H1, ct := Pv H1, bk := D.nx } (σ'.set j0 (some (.ref c))) H') (hd : ∀ H1 σ' H', Ex H H1 → Pv H1 σ' H' → D.nx σ' H') :
    tFor (iList K (tLst tr)) (gName j0) tu D σ H := h H (Ex.refl H) _ fun us H1 e hl hu => ⟨by rw [hl]; unfold sizeLine; omega, fun p hp => by
  have e1 : Ex H1 (upd H1 p (.lst us)) := Ex.new hp
  have e2 := e.trans e1
  refine (s_forLn (H := upd H1 p (.lst us)) (tl := tC (.ref p)) (xs := us) ev_c (sq_of upd_same) (fun _ => Pv (upd H1 p (.lst us))) (fun H3 e3 => h0 _ H3 e2 e3) (fun i σ' H' hi p' => ex_l (hx _ _ _ e2 p') (sq_of upd_same)) (fun i x σ' H' hi p' => ?_) fun σ' H' p' => hd _ σ' H' e2 p' : tFor (iList K (tC (.ref p))) _ tu D σ _)
  obtain ⟨c, g, rfl, hc, G⟩ := hu i x hi
  exact hs _ c g σ' H' e2 (ex_l e1 hc) G p'⟩
theorem q_forGs {n k j0 : Nat} {tr : TA} {tu tz : TS} {D : Ends} {σ : L2.St} {H : Hp} (h : EvGs K n tr σ H k) (hn : k ≤ 1000) (Pv : Hp → L2.St → Hp → Prop) (h0 : ∀ H1 H2, Ex H H1 → Ex H1 H2 → Pv H1 σ H2) (hx : ∀ H1 σ' H', Ex H H1 → Pv H1 σ' H' → Ex H1 H')
    (hs : ∀ H1 c g σ' H', Ex H H1 → SqL K H1 c (vn n g) → Pm n g → Pv H1 σ' H' → tu { D with nx := Pv H1, ct := Pv H1, bk := tz D } (σ'.set j0 (some (.ref c))) H') (hd : ∀ H1 σ' H', Ex H H1 → Pv H1 σ' H' → tz D σ' H') :
    tSeq (tFor (iList K (tLst tr)) (gName j0) tu) tz D σ H := s_forGs (D := { D with nx := tz D }) h hn Pv h0 hx hs hd
/-- x = [a new table, a new list] -/
theorem q_asgTwo {t1 t2 : TE} {tz : TS} {D : Ends} {σ : L2.St} {H : Hp} {i n : Nat} {rows : Nat → List V} {xs : List V} (h1 : EvM t1 σ H n rows) (h2 : EvL t2 σ H xs) (k : ∀ p p1 a p2 H1, H p = none → Ex H H1 → H1 p = some (.lst [.ref p1, .ref p2]) → H1 p1 = some (.lst (vr n a)) → (∀ i, i < n → H1 (a i) = some (.lst (rows i))) → H1 p2 = some (.lst xs) → tz D (σ.set i (some (.ref p))) H1) :
    tSeq (tAsg (tLst (tCons t1 (tCons t2 tNil))) (gName i)) tz D σ H := h1 H (Ex.refl H) _ fun p1 a H1 _ e1 hp1 ha _ _ => h2 H1 e1 _ fun p2 H2 _ e2 hp2 => ⟨by show 2 ≤ sizeLine; unfold sizeLine; omega, fun p hp =>
  k p p1 a p2 _ (fresh_back (e1.trans e2) hp) ((e1.trans e2).trans (Ex.new hp)) upd_same (Ex.new hp _ _ (e2 _ _ hp1)) (fun i hi => Ex.new hp _ _ (e2 _ _ (ha i hi).2)) (Ex.new hp _ _ hp2)⟩
theorem eqv_two {n : Nat} {M : Nat → Nat → Int} {xs : List Int} : PyData.eqv (.list [dM n M, dI xs]) (.list [dM n M, dI xs]) = true := by
  refine eqv_all.mpr ⟨rfl, fun i x y hx hy => ?_⟩
  match i, hx, hy with
  | 0, hx, hy =>
    cases hx
    cases hy
    exact eqv_dM fun _ _ _ _ => rfl
  | 1, hx, hy =>
    cases hx
    cases hy
    rw [eqv_ints]
    exact decide_eq_true rfl
  | i + 2, hx, hy => cases hx
theorem flat_two {n : Nat} {M : Nat → Nat → Int} {xs : List Int} : SeqAt.shaped (.list [dM n M, dI xs]) = true := flat_shaped (k := 3) (flat_list fun d hd => by
  rcases List.mem_cons.mp hd with rfl | hd
  · exact flat_dM n M
  · rcases List.mem_cons.mp hd with rfl | hd
    · exact ⟨(flat_dI xs).1, Nat.le_trans (flat_dI xs).2 (by decide)⟩
    · cases hd) (by decide)
/-- handed against [table, giving] -/
theorem evd_twoH {te : TE} {σ : L2.St} {H : Hp} {p p1 p2 : Addr} {n : Nat} {a : Nat → Addr} {M : Nat → Nat → Int} {g : Nat → Nat} (h : Ev te σ H (.ref p)) (hp : SqL K H p [.ref p1, .ref p2]) (hT : Tab K H p1 n a M) (hc : SqL K H p2 (vn n g)) : EvD K te σ H (.list [dM n M, dI (il n fun i => ((g i : Nat) : Int))]) :=
  Ev.d h (.lst hp (.cons hT.dp (.cons (dp_ints hc) .nil)))
theorem evd_twoT {t1 t2 : TE} {σ : L2.St} {H : Hp} {p1 p2 : Addr} {n : Nat} {a : Nat → Addr} {M : Nat → Nat → Int} {g : Nat → Nat} (h1 : Ev t1 σ H (.ref p1)) (h2 : Ev t2 σ H (.ref p2)) (hT : Tab K H p1 n a M) (hc : SqL K H p2 (vn n g)) : EvD K (tLst (tCons t1 (tCons t2 tNil))) σ H (.list [dM n M, dI (il n fun i => ((g i : Nat) : Int))]) :=
  evd_lstA (evda_cons (Ev.d h1 hT.dp) (evda_cons (Ev.d h2 (dp_ints hc)) evda_nil)) (by show 2 ≤ 1000; decide)
/-! two numbers as a tuple -/
def dT (x y : Int) : PyData := .tuple [.int x, .int y]
theorem dT_shaped (x y : Int) : SeqAt.shaped (dT x y) = true := flat_shaped (k := 1) (flat_tup fun d hd => by
  rcases List.mem_cons.mp hd with rfl | hd
  · exact flat_int _
  · rcases List.mem_cons.mp hd with rfl | hd
    · exact flat_int _
    · cases hd) (by decide)
theorem eqv_dT (x y : Int) : PyData.eqv (dT x y) (dT x y) = true := by
  have h : PyData.eqvAll [.int x, .int y] [.int x, .int y] = true := by
    refine eqv_all.mpr ⟨rfl, fun i u v hx hy => ?_⟩
    rw [hx] at hy
    cases hy
    match i, hx with
    | 0, hx =>
      cases hx
      exact decide_eq_true rfl
    | 1, hx =>
      cases hx
      exact decide_eq_true rfl
    | i + 2, hx => cases hx
  exact h
theorem dp_dT {H : Hp} {p : Addr} {x y : Int} (h : SqT K H p [.int x, .int y]) : Dp K H (.ref p) (dT x y) := .tup h (.cons (.int x) (.cons (.int y) .nil))
theorem evd_U {te : TE} {σ : L2.St} {H : Hp} {x y : Int} (h : EvU te σ H [.int x, .int y]) : EvD K te σ H (dT x y) := fun H1 e Q q => h H1 e Q fun p H2 _ e2 hp => q _ H2 e2 (dp_dT (st_of hp))
/-- x = settled(table, rent).rooms -/
theorem q_rooms {t1 t2 : TE} {tz : TS} {D : Ends} {σ : L2.St} {H : Hp} {E : XK} {CT CR CS t : Addr} {i n : Nat} {a : Nat → Addr} {M : Nat → Nat → Int} {r : Int} (cl : Cls K CS) (nr : NoAttr K CS "rooms") (h1 : Ev t1 σ H (.ref t)) (h2 : Ev t2 σ H (.int r)) (hT : Tab K H t n a M) (n0 : 0 < n) (n12 : n ≤ 12)
    (k : ∀ g f l H1, Pm n g → Fit n M r g f → H l = none → Ex H H1 → H1 l = some (.lst (vn n g)) → tz D (σ.set i (some (.ref l))) H1) : tSeq (tAsg (tFld K (tCall (spSettled K CT CR CS) [] E (tCons t1 (tCons t2 tNil))) "rooms") (gName i)) tz D σ H :=
  h1 H (Ex.refl H) _ fun H1 e1 => h2 H1 e1 _ fun H2 e2 => ⟨.ref t, .int r, rfl, askT_good (hT.mono (e1.trans e2)) n0 n12 (askR_good fun g f G F p l m H3 np nl nm lm e3 ⟨dx, o1, o2, o3⟩ =>
    ⟨p, CS, dx, _, .ref l, rfl, o1, cl, nr, by simp [List.lookup], k g f l H3 G F (fresh_back (e1.trans e2) nl) ((e1.trans e2).trans e3) o2⟩)⟩
theorem q_told {t1 t2 t3 : TE} {tz : TS} {D : Ends} {σ : L2.St} {H : Hp} {E : XK} {CT CR CG CP CI t c : Addr} {i n : Nat} {a : Nat → Addr} {M : Nat → Nat → Int} {r : Int} {g : Nat → Nat} (h1 : Ev t1 σ H (.ref t)) (h2 : Ev t2 σ H (.int r)) (h3 : Ev t3 σ H (.ref c)) (hT : Tab K H t n a M) (n0 : 0 < n) (n12 : n ≤ 12) (hc : SqL K H c (vn n g)) (G : Pm n g)
    (k1 : Can n M g → ∀ f p l H1, Fit n M r g f → H p = none → H l = none → Ex H H1 → Ob1 CP "prices" H1 p l (vl n f) → tz D (σ.set i (some (.ref p))) H1) (k2 : ¬ Can n M g → ∀ f k p l H1, RingP n M g f k → H p = none → H l = none → Ex H H1 → Ob1 CI "people" H1 p l (vn k f) → tz D (σ.set i (some (.ref p))) H1) :
    tSeq (tAsg (tCall (spTold K CT CR CG CP CI) [] E (tCons t1 (tCons t2 (tCons t3 tNil)))) (gName i)) tz D σ H :=
  h1 H (Ex.refl H) _ fun H1 e1 => h2 H1 e1 _ fun H2 e2 => h3 H2 (e1.trans e2) _ fun H3 e3 => ⟨.ref t, .int r, .ref c, rfl, askT_good (hT.mono ((e1.trans e2).trans e3)) n0 n12 (askR_good (askG_good (ex_l ((e1.trans e2).trans e3) hc) G ⟨fun C f F p l H4 a1 a2 a3 a4 => k1 C f p l H4 F (fresh_back ((e1.trans e2).trans e3) a1) (fresh_back ((e1.trans e2).trans e3) a2) (((e1.trans e2).trans e3).trans a3) a4,
    fun C f k R p l H4 a1 a2 a3 a4 => k2 C f k p l H4 R (fresh_back ((e1.trans e2).trans e3) a1) (fresh_back ((e1.trans e2).trans e3) a2) (((e1.trans e2).trans e3).trans a3) a4⟩))⟩
/-! ### isinstance of an exception that a suite holds -/
def rIsX (K : PySem.W.Frag) (cls : Value) (d : Option Addr) (a : Addr) : List V → Hp → VK → Prop := fun xs H Q => ∃ D, cls = .ref D ∧ d = none ∧ ExcC K D ∧ rIsE K D a xs H Q
theorem k_isX {X : Cx} {a : Addr} {cls : Value} {d : Option Addr} {oe : Obj} {pn : List (Addr × Obj)} (hz : Zc cls d oe) (hf : ∃ vs, oe.data = .fields vs) (K : PySem.W.Frag) (hK : X.K = K := by rfl) : CallR (X.suite a ((a, oe) :: pn)) (.builtin "isinstance") (rIsX K cls d a) := by
  subst hK
  intro pins s σ H xs us Q I r h
  obtain ⟨D, rfl, rfl, C, h⟩ := h
  exact call_isE C hz hf pins s σ H xs us Q I r h
theorem ev_isX {ta : TE} {σ : L2.St} {H : Hp} {a D C : Addr} {b : Bool} (ha : Ev ta σ H (.ref a)) (X : ExcC K D) (hk : PySem.W.kitOne K (.ref D) (.ref C) = some b) : Ev (tCB (rIsX K (.ref D) none a) (tCons ta (tCons (tC (.ref C)) tNil))) σ H (.bl b) := fun H1 e Q q =>
  ha H1 e _ fun H2 e2 => ⟨D, rfl, rfl, X, .ref C, .ref C, b, rfl, fun u hu => hu, hk, q H2 e2⟩
theorem ev_isXT {ta : TE} {σ : L2.St} {H : Hp} {a D : Addr} {N : String} {b : Bool} (ha : Ev ta σ H (.ref a)) (X : ExcC K D) (hk : PySem.W.kitOne K (.ref D) (.type N) = some b) : Ev (tCB (rIsX K (.ref D) none a) (tCons ta (tCons (tC (.ty N)) tNil))) σ H (.bl b) := fun H1 e Q q =>
  ha H1 e _ fun H2 e2 => ⟨D, rfl, rfl, X, .ty N, .type N, b, rfl, fun u hu => hu, hk, q H2 e2⟩
theorem dropS {sp : Sp} {vs : List V} {E : L2.St → XK} {ta : TA} {D : Ends} {σ : L2.St} {H : Hp} (h : EvA ta σ H vs) (k : ∀ H1, Ex H H1 → sp vs H1 (fun _ H2 => D.nx σ H2) (E σ)) : tDrop (tCallS sp E ta) D σ H := h H (Ex.refl H) _ k
end
end RW
namespace RW
open PySem PySem.Spec PyProof.Rows L2 Evl RP
section
variable {P : Program} {w : World} {K : PySem.W.Frag} {mg : Str → Option Value} {base : Heap}
/-! ### by how much people say more (k01, k04) -/
theorem s_forZN {ta tb : TE} {a : Addr} {n : Nat} {f g : Nat → V} {i0 j0 : Nat} {tu : TS} {D : Ends} {σ : L2.St} {H : Hp} (h1 : Ev ta σ H (.ref a)) (h2 : EvL tb σ H (vf n g)) (hx : SqL K H a (vf n f)) (Pv : Hp → Nat → L2.St → Hp → Prop) (h0 : ∀ H1 H2, Ex H H1 → Ex H1 H2 → Pv H1 0 σ H2)
    (hP : ∀ H1 i σ' H', Ex H H1 → Pv H1 i σ' H' → Ex H1 H') (hs : ∀ H1 (i : Nat) σ' H' H2, Ex H H1 → i < n → Pv H1 i σ' H' → Ex H' H2 → tu { D with nx := Pv H1 (i + 1), ct := Pv H1 (i + 1), bk := D.nx } ((σ'.set i0 (some (f i))).set j0 (some (g i))) H2) (hd : ∀ H1 σ' H', Ex H H1 → Pv H1 n σ' H' → D.nx σ' H') :
    tFor (iZip K (tCons ta (tCons tb tNil))) (gTup K 2 (gCons (gName i0) (gCons (gName j0) gNil))) tu D σ H := h1 H (Ex.refl H) _ fun H1 e1 => h2 H1 e1 _ fun p H2 _ e2 hp => by
  have e := e1.trans e2
  exact (s_forZ (H := H2) (ta := tCons (tC (.ref a)) (tCons (tC (.ref p)) tNil)) (a := a) (b := p) (ea_cons ev_c (ea_cons ev_c ea_nil)) (ex_l e hx) (sq_of hp) (Pv H2) (fun H3 e3 => h0 H2 H3 e e3) (fun i σ' H' hi p' => ⟨ex_l (e.trans (hP _ _ _ _ e p')) hx, sq_of (hP _ _ _ _ e p' _ _ hp)⟩) (fun i σ' H' H3 hi p' e3 => hs H2 i σ' H' H3 e hi p' e3) fun σ' H' p' => hd H2 σ' H' e p' : tFor (iZip K (tCons (tC (.ref a)) (tCons (tC (.ref p)) tNil))) _ tu D σ H2)
theorem q_forZN {ta tb : TE} {a : Addr} {n : Nat} {f g : Nat → V} {i0 j0 : Nat} {tu tz : TS} {D : Ends} {σ : L2.St} {H : Hp} (h1 : Ev ta σ H (.ref a)) (h2 : EvL tb σ H (vf n g)) (hx : SqL K H a (vf n f)) (Pv : Hp → Nat → L2.St → Hp → Prop) (h0 : ∀ H1 H2, Ex H H1 → Ex H1 H2 → Pv H1 0 σ H2)
    (hP : ∀ H1 i σ' H', Ex H H1 → Pv H1 i σ' H' → Ex H1 H') (hs : ∀ H1 (i : Nat) σ' H' H2, Ex H H1 → i < n → Pv H1 i σ' H' → Ex H' H2 → tu { D with nx := Pv H1 (i + 1), ct := Pv H1 (i + 1), bk := tz D } ((σ'.set i0 (some (f i))).set j0 (some (g i))) H2) (hd : ∀ H1 σ' H', Ex H H1 → Pv H1 n σ' H' → tz D σ' H') :
    tSeq (tFor (iZip K (tCons ta (tCons tb tNil))) (gTup K 2 (gCons (gName i0) (gCons (gName j0) gNil))) tu) tz D σ H := s_forZN (D := { D with nx := tz D }) h1 h2 hx Pv h0 hP hs hd
theorem cut_lo {xs : List V} {n : Nat} (h : n ≤ xs.length) : cutV xs none (some (n : Int)) = xs.take n := by
  unfold cutV
  rw [HT.sIx_none, HT.sIx_nat, List.drop_zero, Nat.sub_zero, Nat.min_eq_left h]
theorem cut_hi {xs : List V} {n : Nat} (h : n ≤ xs.length) : cutV xs (some (n : Int)) none = xs.drop n := by
  unfold cutV
  rw [HT.sIx_none, HT.sIx_nat, Nat.min_eq_left h]
  exact List.take_of_length_le (by rw [List.length_drop]; omega)
theorem vn_turn {k : Nat} {f : Nat → Nat} (k0 : 0 < k) : (vn k f).drop 1 ++ (vn k f).take 1 = vn k fun i => f (nxt k i) := by
  have hl : (vn k f).length = k := vf_len _ _
  have hd : ((vn k f).drop 1).length = k - 1 := by rw [List.length_drop, hl]
  refine List.ext_getElem? fun i => ?_
  by_cases h : i < k - 1
  · rw [List.getElem?_append_left (by omega), List.getElem?_drop, vf_get (by omega), vf_get (by omega)]
    show _ = some (V.int ((f (nxt k i) : Nat) : Int))
    unfold nxt
    rw [if_pos (by omega), Nat.add_comm]
  · by_cases h2 : i = k - 1
    · rw [List.getElem?_append_right (by omega), hd, h2, Nat.sub_self, List.getElem?_take, if_pos (by omega), vf_get k0, vf_get (by omega)]
      show _ = some (V.int ((f (nxt k (k - 1)) : Nat) : Int))
      unfold nxt
      rw [if_neg (by omega)]
    · rw [List.getElem?_eq_none (by rw [List.length_append, List.length_take, hd, hl]; omega), List.getElem?_eq_none (by rw [vf_len]; omega)]
def Peo (n : Nat) (f : Nat → Int) (k : Nat) (pn : Nat → Nat) : Prop := (∀ i, i < k → f i = ((pn i : Nat) : Int)) ∧ 0 < k ∧ (∀ i, i < k → pn i < n) ∧ ∀ i j, i < k → j < k → pn i = pn j → i = j
def spMore (K : PySem.W.Frag) : Sp := fun vs H Q _ => ∃ t c l n a M g k f, vs = [.ref t, .ref c, .ref l] ∧ Tab K H t n a M ∧ n ≤ 12 ∧ SqL K H c (vn n g) ∧ (∀ i, i < n → g i < n) ∧ SqL K H l (vl k f) ∧ k < 64 ∧ (∀ pn, Peo n f k pn → RetV (.int (gainN M g pn k)) H Q) ∧ ((¬ ∃ pn, Peo n f k pn) → RetV .non H Q)
theorem c__law_more (T : Blt mg) {f : Addr} {fd : FuncData} (F : Fun K "_law_more" "_law_more" s__law_more f fd) (g : mg "_law_more" = some (.ref f)) (b : Binds K fd P__law_more []) : Cl P w K mg base 1 "_law_more" (spMore K) := by
  refine ⟨f, fd, _, fn_lift (F.ok sc__law_more (fun vs H Q E h => ?_) (fun cdv A outer s H vs Q E hr h => ?_)), g, F.kp, b⟩
  · obtain ⟨t, c, l, n, a, M, g, k, f, rfl, _⟩ := h
    rfl
  · obtain ⟨t, c, l, n, a, M, g, k, f, rfl, hT, n12, hc, gl, hl, hk, q1, q2⟩ := h
    refine ⟨_, (pss_cons (ps_if (PW.pt (pw_or (pt_cmpR (k_eqD K hr.units) (pv 2) (pe_lst pa_nil) (nomark _)) (pw_or1 (pt_cmpR op_ne (pe_ls K (by rfl) T.len (by rfl) T.set_ (pv 2)) (pe_callB (k_len K) (by rfl) T.len (by decide +kernel) (pa_cons (pv 2) pa_nil)) (nomark _))))) (pss_one (ps_ret pe_non)) pss_nil) (pss_cons (ps_if (pt_not (pt_val (pe_callB (k_all K) (by rfl) T.all_ (by decide +kernel) (pa_cons (pe_lc (own := [("_law_who", 4)]) rfl sc__law_more.nd (pi_l K (pv 2)) (blkOk_by (by kernel_rfl)) (fun _ _ _ _ _ => (pg_name (i := 4) sc__law_more.nd rfl (by first | exact Or.inl rfl | exact Or.inr rfl))) (fun _ _ _ _ _ => pts_nil) (fun _ _ _ _ _ => (pe_chain op_le op_lt pe_int (pv 4) (pe_callB (k_len K) (by rfl) T.len (by decide +kernel) (pa_cons (pv 0) pa_nil))))) pa_nil)))) (pss_one (ps_ret pe_non)) pss_nil) (pss_cons (ps_set (i := 3) sc__law_more.nd rfl (by first | exact Or.inl rfl | exact Or.inr rfl) pe_int) (pss_cons (ps_for PassesOwn.never rfl (pi_zp K (by rfl) T.zip (pa_cons (pv 2) (pa_cons (pe_op op_cat (pe_slice (k_sl K) (pv 2) (po_some pe_int) po_none) (pe_slice (k_sl K) (pv 2) po_none (po_some pe_int))) pa_nil))) (pg_t K (n := 2) rfl (pgs_cons (pg_name (i := 4) sc__law_more.nd rfl (by first | exact Or.inl rfl | exact Or.inr rfl)) (pgs_cons (pg_name (i := 5) sc__law_more.nd rfl (by first | exact Or.inl rfl | exact Or.inr rfl)) pgs_nil))) (pss_cons (ps_set (i := 6) sc__law_more.nd rfl (by first | exact Or.inl rfl | exact Or.inr rfl) (pe_ix (k_ix K) (pv 0) (pv 4) (fun _ _ => rfl))) (pss_one (ps_set (i := 3) sc__law_more.nd rfl (by first | exact Or.inl rfl | exact Or.inr rfl) (pe_op op_sub (pe_op op_add (pv 3) (pe_ix (k_ix K) (pv 6) (pe_ix (k_ix K) (pv 1) (pv 5) (fun _ _ => rfl)) (fun _ _ => rfl))) (pe_ix (k_ix K) (pv 6) (pe_ix (k_ix K) (pv 1) (pv 4) (fun _ _ => rfl)) (fun _ _ => rfl))))))) (pss_one (ps_ret (pv 3))))))), ?_⟩
    refine q_when (b := decide (k = 0) || !decide ((met (il k f)).length = k)) (et_or (et_is (et_test (evd_eq (Ev.d (ev_var rfl) (dp_ints hl)) (evd_lst (ns := []) (el_lst ea_nil (Nat.zero_le _))) (dI_shaped _) (dI_shaped _))) ?_) fun _ => et_is (et_test (ev_neI (ev_lenSet (ev_var rfl) hl hk) (ev_lenf (ev_var rfl) hl))) ?_) (fun h1 H1 e1 => ?_) fun h1 H1 e1 => ?_
    · rw [eqv_ints]
      refine decide_eq_decide.mpr ⟨fun e => ?_, fun e => by rw [e]; rfl⟩
      have := congrArg List.length e
      rw [il_len] at this
      exact this
    · congr 1
      exact decide_eq_decide.mpr (by omega)
    · refine s_ret ev_c fun H2 e2 => q2 (fun ⟨pn, a1, a2, a3, a4⟩ => ?_) H2 (e1.trans e2)
      rw [Bool.or_eq_true, decide_eq_true_iff, Bool.not_eq_true', decide_eq_false_iff_not] at h1
      rcases h1 with h1 | h1
      · omega
      · refine h1 (((met_iff _).mpr ?_).trans (il_len k f))
        exact il_nodup.mpr fun i j hi hj e => a4 i j hi hj (by rw [a1 i hi, a1 j hj] at e; omega)
    · rw [Bool.or_eq_false_iff, decide_eq_false_iff_not, Bool.not_eq_false', decide_eq_true_iff] at h1
      obtain ⟨k0, h1⟩ := h1
      have nd : (il k f).Nodup := (met_iff _).mp (h1.trans (il_len k f).symm)
      refine q_when (b := !(bf k fun i => decide (0 ≤ f i ∧ f i < (n : Int))).all id) (et_not (et_B (ev_allL (bs := bf k fun i => decide (0 ≤ f i ∧ f i < (n : Int))) ?_))) (fun h2 H2 e2 => ?_) fun h2 H2 e2 => ?_
      · rw [← vf_bf]
        refine el_lc _ (ev_var rfl) (ex_l e1 hl) (by omega) (fun _ => rfl) fun i H2 e2 hi => ?_
        refine ev_is (ev_chain (r := rI0 fun i j => .bl (decide (i ≤ j))) (r' := rI0 fun i j => .bl (decide (i < j))) (b1 := decide (0 ≤ f i)) (b2 := decide (f i < (n : Int))) ev_c (ev_var rfl) rv_I0 (fun _ => ev_lenf (ev_var rfl) (ex_l (e1.trans e2) hT.rows)) fun _ => rv_I0) ?_
        rw [← Bool.decide_and]
      · refine s_ret ev_c fun H3 e3 => q2 (fun ⟨pn, a1, a2, a3, a4⟩ => ?_) H3 ((e1.trans e2).trans e3)
        have h4 : (bf k fun i => decide (0 ≤ f i ∧ f i < (n : Int))).all id = true := bf_all.mpr fun i hi => decide_eq_true (by rw [a1 i hi]; have := a3 i hi; omega)
        rw [h4] at h2
        cases h2
      · have h3 : ∀ i, i < k → 0 ≤ f i ∧ f i < (n : Int) := fun i hi => of_decide_eq_true (bf_all.mp (by rw [Bool.not_eq_false'] at h2; exact h2) i hi)
        generalize hpn' : (fun i => (f i).toNat) = pn
        have hpn : ∀ i, i < k → f i = ((pn i : Nat) : Int) := fun i hi => by
          have := (h3 i hi).1
          rw [← hpn']
          show f i = (((f i).toNat : Nat) : Int)
          omega
        have hlt : ∀ i, i < k → pn i < n := fun i hi => by
          have := h3 i hi
          have := hpn i hi
          omega
        have hP : Peo n f k pn := ⟨hpn, by omega, hlt, fun i j hi hj e => il_nodup.mp nd i j hi hj (by rw [hpn i hi, hpn j hj, e])⟩
        have hl' : SqL K H l (vn k pn) := by
          have e : vl k f = vn k pn := vf_congr fun i hi => by
            show V.int (f i) = _
            rw [hpn i hi]
          rw [← e]
          exact hl
        refine q_asg ev_c fun H3 e3 => ?_
        have e13 := (e1.trans e2).trans e3
        have hl3 := ex_l e13 hl'
        have turn : EvL (tOp rCat (tSl (rSlL K) (tVar 2) (tPart (tC (.int 1))) tNoPart) (tSl (rSlL K) (tVar 2) tNoPart (tPart (tC (.int 1))))) [some (.ref t), some (.ref c), some (.ref l), some (.int 0), none, none, none] H3 (vn k fun i => pn (nxt k i)) := by
          have c1 := el_sl (te := tVar 2) (σ := [some (.ref t), some (.ref c), some (.ref l), some (.int 0), none, none, none]) (H := H3) (ev_var rfl) (eo_some (ev_c (v := .int 1))) eo_none hl3
          have c2 := el_sl (te := tVar 2) (σ := [some (.ref t), some (.ref c), some (.ref l), some (.int 0), none, none, none]) (H := H3) (ev_var rfl) eo_none (eo_some (ev_c (v := .int 1))) hl3
          rw [show (1 : Int) = ((1 : Nat) : Int) from rfl, cut_hi (by rw [vf_len]; omega)] at c1
          rw [show (1 : Int) = ((1 : Nat) : Int) from rfl, cut_lo (by rw [vf_len]; omega)] at c2
          rw [← vn_turn (by omega)]
          exact el_cat c1 c2 (by rw [List.length_drop, List.length_take, vf_len]; omega)
        refine q_forZN (ev_var rfl) turn hl3 (fun H1 i σ' H' => Ex H1 H' ∧ ∃ x4 x5 x6, σ' = [some (.ref t), some (.ref c), some (.ref l), some (.int (sumN i fun i => RP.say M g (pn i) (pn (nxt k i)))), x4, x5, x6])
          (fun H1 H2 e e2 => ⟨e2, _, _, _, rfl⟩) (fun H1 i σ' H' _ h => h.1) (fun H1 i σ' H' H4 eH hi hW e4 => ?_) fun H1 σ' H' eH hW => ?_
        · obtain ⟨e, x4, x5, x6, rfl⟩ := hW
          have e' := e13.trans ((eH.trans e).trans e4)
          have hnk : nxt k i < k := by
            unfold nxt
            split <;> omega
          refine q_asg (v := .ref (a (pn i))) (ev_ixr (ev_var rfl) (ev_var rfl) (ex_l e' hT.rows) (hlt i hi)) fun H5 e5 => ?_
          have e5' := e'.trans e5
          have hrow := ex_l e5' (hT.row _ (hlt i hi))
          refine s_asg (ev_sub (ev_add (ev_var rfl) (ev_ixl (i := g (pn (nxt k i))) (ev_var rfl) (ev_ixn (ev_var rfl) (ev_var rfl) (ex_l e5' hc) (hlt _ hnk)) hrow (gl _ (hlt _ hnk)))) (ev_ixl (i := g (pn i)) (ev_var rfl) (ev_ixn (ev_var rfl) (ev_var rfl) (ex_l e5' hc) (hlt i hi)) hrow (gl _ (hlt i hi)))) fun H6 e6 => ⟨((e.trans e4).trans e5).trans e6, some (.int ((pn i : Nat) : Int)), some (.int ((pn (nxt k i) : Nat) : Int)), some (.ref (a (pn i))), ?_⟩
          have es : sumN i (fun i => RP.say M g (pn i) (pn (nxt k i))) + M (pn i) (g (pn (nxt k i))) - M (pn i) (g (pn i)) = sumN (i + 1) fun i => RP.say M g (pn i) (pn (nxt k i)) := by
            show _ = sumN i (fun i => RP.say M g (pn i) (pn (nxt k i))) + RP.say M g (pn i) (pn (nxt k i))
            unfold RP.say
            omega
          rw [← es]
          rfl
        · obtain ⟨e, x4, x5, x6, rfl⟩ := hW
          exact s_ret (ev_var rfl) fun H4 e4 => q1 pn hP H4 (e13.trans ((eH.trans e).trans e4))
end
end RW
namespace RW
open PySem PySem.Spec PyProof.Rows L2 Evl RP
section
variable {P : Program} {w : World} {K : PySem.W.Frag} {mg : Str → Option Value} {base : Heap}
/-! ### law_k01: an answer looked at -/
theorem q_asgC {sp : Sp} {vs : List V} {E : XK} {ta : TA} {tz : TS} {D : Ends} {σ : L2.St} {H : Hp} {i : Nat} (h : EvA ta σ H vs) (k : ∀ H1, Ex H H1 → sp vs H1 (fun v H2 => tz D (σ.set i (some v)) H2) E) : tSeq (tAsg (tCall sp [] E ta) (gName i)) tz D σ H := by
  unfold tSeq tAsg tCall
  refine h H (Ex.refl H) _ fun H1 e1 => ?_
  rw [List.append_nil]
  exact k H1 e1
theorem peo_gain {n k : Nat} {M : Nat → Nat → Int} {g : Nat → Nat} {f : Nat → Int} {pn qn : Nat → Nat} (h : Peo n f k pn) (h' : ∀ i, i < k → f i = ((qn i : Nat) : Int)) : gainN M g qn k = gainN M g pn k := sumN_congr fun i hi => by
  have hnk : nxt k i < k := by
    have := h.2.1
    unfold nxt
    split <;> omega
  have e1 : qn i = pn i := by
    have := h.1 i hi
    have := h' i hi
    omega
  have e2 : qn (nxt k i) = pn (nxt k i) := by
    have := h.1 _ hnk
    have := h' _ hnk
    omega
  show RP.say M g (qn i) (qn (nxt k i)) = RP.say M g (pn i) (pn (nxt k i))
  rw [e1, e2]
def spDueA (K : PySem.W.Frag) (CP CI : Addr) : Sp := fun vs H Q _ => ∃ t n a M r c g p l b, vs = [.ref t, .int r, .ref c, .ref p] ∧ Tab K H t n a M ∧ 0 < n ∧ n ≤ 12 ∧ SqL K H c (vn n g) ∧ (∀ i, i < n → g i < n) ∧
  ((∃ m f, Ob1 CP "prices" H p l (vl m f) ∧ (b = true ↔ m = n ∧ Fit n M r g f)) ∨ ∃ k f, Ob1 CI "people" H p l (vl k f) ∧ k < 64 ∧ (b = true ↔ RingB n M g f k)) ∧ RetV (.bl b) H Q
theorem c__law_due (T : Blt mg) {CP CI : Addr} (kl_Priced : Kl K CP) (na_Priced_prices : NoAttr K CP "prices") (kl_Ring : Kl K CI) (na_Ring_people : NoAttr K CI "people") (g_Priced : GV mg "Priced" (.ref CP)) (is_Priced_Priced : PySem.W.kitOne K (.ref CP) (.ref CP) = some true) (isnt_Ring_Priced : PySem.W.kitOne K (.ref CI) (.ref CP) = some false)
    (c__law_fit : Cl P w K mg base 1 "_law_fit" (spLFit K)) (c__law_more : Cl P w K mg base 1 "_law_more" (spMore K)) {f : Addr} {fd : FuncData} (F : Fun K "_law_due" "_law_due" s__law_due f fd) (g : mg "_law_due" = some (.ref f)) (b : Binds K fd P__law_due []) : Cl P w K mg base 2 "_law_due" (spDueA K CP CI) := by
  refine ⟨f, fd, _, fn_lift (F.ok sc__law_due (fun vs H Q E h => ?_) (fun cdv A outer s H vs Q E hr h => ?_)), g, F.kp, b⟩
  · obtain ⟨t, n, a, M, r, c, g, p, l, b, rfl, _⟩ := h
    rfl
  · obtain ⟨t, n, a, M, r, c, g, p, l, b, rfl, hT, n0, n12, hc, gl, hO, q⟩ := h
    refine ⟨_, (pss_cons (ps_if (pt_val (pe_callB (k_isi K) (by rfl) T.isinstance (by decide +kernel) (pa_cons (pv 3) (pa_cons (pe_gv g_Priced (by rfl)) pa_nil)))) (pss_one (ps_ret (pe_k c__law_fit hr (by decide) passL (by rfl) (pa_cons (pv 0) (pa_cons (pv 1) (pa_cons (pv 2) (pa_cons (pe_f K (pv 3) rfl) pa_nil))))))) pss_nil) (pss_cons (ps_set (i := 4) sc__law_due.nd rfl (by first | exact Or.inl rfl | exact Or.inr rfl) (pe_k c__law_more hr (by decide) passL (by rfl) (pa_cons (pv 0) (pa_cons (pv 2) (pa_cons (pe_f K (pv 3) rfl) pa_nil))))) (pss_one (ps_ret (pe_and (pe_cmpR op_notN (pv 4) pe_non (nomark _)) (pe_one (pe_cmpR op_gt (pv 4) pe_int (nomark _)))))))), ?_⟩
    rcases hO with ⟨m, f, ⟨dx, o1, o2⟩, hb⟩ | ⟨k, f, ⟨dx, o1, o2⟩, hk, hb⟩
    · refine q_when (b := true) (et_B (ev_isiC (ev_var rfl) (kl_Priced.ty o1) is_Priced_Priced)) (fun _ H1 e1 => ?_) fun z => nomatch z
      exact s_ret (ev_lfit (ev_var rfl) (ev_var rfl) (ev_var rfl) (ev_fld (ev_var rfl) (e1 _ _ o1) kl_Priced.cl na_Priced_prices (by simp [List.lookup])) (hT.mono e1) n0 n12 (ex_l e1 hc) gl (sq_of (e1 _ _ o2)) hb) fun H2 e2 => q H2 (e1.trans e2)
    · refine q_when (b := false) (et_B (ev_isiC (ev_var rfl) (kl_Ring.ty o1) isnt_Ring_Priced)) (fun z => nomatch z) fun _ H1 e1 => ?_
      refine q_asgC (vs := [.ref t, .ref c, .ref l]) (ea_cons (ev_var rfl) (ea_cons (ev_var rfl) (ea_cons (ev_fld (v := .ref l) (ev_var rfl) (e1 _ _ o1) kl_Ring.cl na_Ring_people (by simp [List.lookup])) ea_nil))) fun H2 e2 => ?_
      have e12 := e1.trans e2
      refine ⟨t, c, l, n, a, M, g, k, f, rfl, hT.mono e12, n12, ex_l e12 hc, gl, sq_of (e12 _ _ o2), hk, fun pn hP H3 e3 => ?_, fun hn H3 e3 => ?_⟩
      · refine s_ret (ev_is (ev_andV (a := true) (ev_is (ev_notN (ev_var rfl)) (by rw [decide_eq_false (fun z => nomatch z)]; rfl)) fun _ => ev_gt (ev_var rfl) ev_c) ?_) fun H4 e4 => q H4 ((e12.trans e3).trans e4)
        congr 1
        rw [Bool.true_and, Bool.eq_iff_iff, hb, decide_eq_true_iff]
        exact ⟨fun h => ⟨pn, hP.1, hP.2.1, hP.2.2.1, hP.2.2.2, h⟩, fun ⟨qn, a1, a2, a3, a4, a5⟩ => by rw [← peo_gain hP a1]; exact a5⟩
      · have hbf : b = false := by
          cases b with
          | false => rfl
          | true =>
            obtain ⟨qn, a1, a2, a3, a4, a5⟩ := hb.mp rfl
            exact absurd ⟨qn, a1, a2, a3, a4⟩ hn
        subst hbf
        exact s_ret (ev_is (ev_andV (a := false) (b := true) (ev_is (ev_notN (ev_var rfl)) (by rw [decide_eq_true rfl]; rfl)) fun z => nomatch z) rfl) fun H4 e4 => q H4 ((e12.trans e3).trans e4)
theorem ev_dueP {t1 t2 t3 t4 : TE} {σ : L2.St} {H : Hp} {E : XK} {CP CI t c p l : Addr} {n m : Nat} {a : Nat → Addr} {M : Nat → Nat → Int} {r : Int} {g : Nat → Nat} {f : Nat → Int} {b : Bool} (h1 : Ev t1 σ H (.ref t)) (h2 : Ev t2 σ H (.int r)) (h3 : Ev t3 σ H (.ref c)) (h4 : Ev t4 σ H (.ref p))
    (hO : Ob1 CP "prices" H p l (vl m f)) (hT : Tab K H t n a M) (n0 : 0 < n) (n12 : n ≤ 12) (hc : SqL K H c (vn n g)) (gl : ∀ i, i < n → g i < n) (hb : b = true ↔ m = n ∧ Fit n M r g f) : Ev (tCall (spDueA K CP CI) [] E (tCons t1 (tCons t2 (tCons t3 (tCons t4 tNil))))) σ H (.bl b) :=
  ev_call (ea_cons h1 (ea_cons h2 (ea_cons h3 (ea_cons h4 ea_nil)))) fun H1 e Q q E => ⟨t, n, a, M, r, c, g, p, l, b, rfl, hT.mono e, n0, n12, ex_l e hc, gl, Or.inl ⟨m, f, hO.mono e, hb⟩, q⟩
theorem ev_dueR {t1 t2 t3 t4 : TE} {σ : L2.St} {H : Hp} {E : XK} {CP CI t c p l : Addr} {n k : Nat} {a : Nat → Addr} {M : Nat → Nat → Int} {r : Int} {g : Nat → Nat} {f : Nat → Int} {b : Bool} (h1 : Ev t1 σ H (.ref t)) (h2 : Ev t2 σ H (.int r)) (h3 : Ev t3 σ H (.ref c)) (h4 : Ev t4 σ H (.ref p))
    (hO : Ob1 CI "people" H p l (vl k f)) (hk : k < 64) (hT : Tab K H t n a M) (n0 : 0 < n) (n12 : n ≤ 12) (hc : SqL K H c (vn n g)) (gl : ∀ i, i < n → g i < n) (hb : b = true ↔ RingB n M g f k) : Ev (tCall (spDueA K CP CI) [] E (tCons t1 (tCons t2 (tCons t3 (tCons t4 tNil))))) σ H (.bl b) :=
  ev_call (ea_cons h1 (ea_cons h2 (ea_cons h3 (ea_cons h4 ea_nil)))) fun H1 e Q q E => ⟨t, n, a, M, r, c, g, p, l, b, rfl, hT.mono e, n0, n12, ex_l e hc, gl, Or.inr ⟨k, f, hO.mono e, hk, hb⟩, q⟩
theorem ev_showsP {t1 t2 t3 t4 : TE} {σ : L2.St} {H : Hp} {E : XK} {CP t c p l : Addr} {n m : Nat} {a : Nat → Addr} {M : Nat → Nat → Int} {r : Int} {g : Nat → Nat} {f : Nat → Int} {b : Bool} (h1 : Ev t1 σ H (.ref t)) (h2 : Ev t2 σ H (.int r)) (h3 : Ev t3 σ H (.ref c)) (h4 : Ev t4 σ H (.ref p))
    (hO : Ob1 CP "prices" H p l (vl m f)) (hT : Tab K H t n a M) (n0 : 0 < n) (n12 : n ≤ 12) (hc : SqL K H c (vn n g)) (gl : ∀ i, i < n → g i < n) (hb : b = true ↔ m = n ∧ Fit n M r g f) : Ev (tMeth CP "shows" (spShowsP K CP) [] E t4 (tCons t1 (tCons t2 (tCons t3 tNil)))) σ H (.bl b) := fun H1 e Q q =>
  h4 H1 e _ fun H2 e2 => by
    obtain ⟨dx, o1, o2⟩ := hO
    exact ⟨p, dx, _, rfl, e2 _ _ (e _ _ o1), by rfl, h1 H2 (e.trans e2) _ fun H3 e3 => h2 H3 ((e.trans e2).trans e3) _ fun H4 e4 => h3 H4 (((e.trans e2).trans e3).trans e4) _ fun H5 e5 =>
      ⟨p, l, m, f, t, n, a, M, r, c, g, b, rfl, Ob1.mono ((((e.trans e2).trans e3).trans e4).trans e5) ⟨dx, o1, o2⟩, hT.mono ((((e.trans e2).trans e3).trans e4).trans e5), n0, n12, ex_l ((((e.trans e2).trans e3).trans e4).trans e5) hc, gl, hb, fun H6 e6 => q H6 ((((e2.trans e3).trans e4).trans e5).trans e6)⟩⟩
theorem ev_showsR {t1 t2 t3 t4 : TE} {σ : L2.St} {H : Hp} {E : XK} {CI t c p l : Addr} {n k : Nat} {a : Nat → Addr} {M : Nat → Nat → Int} {r : Int} {g : Nat → Nat} {f : Nat → Int} {b : Bool} (h1 : Ev t1 σ H (.ref t)) (h2 : Ev t2 σ H (.int r)) (h3 : Ev t3 σ H (.ref c)) (h4 : Ev t4 σ H (.ref p))
    (hO : Ob1 CI "people" H p l (vl k f)) (hk : k < 64) (hT : Tab K H t n a M) (hc : SqL K H c (vn n g)) (gl : ∀ i, i < n → g i < n) (hb : b = true ↔ RingB n M g f k) : Ev (tMeth CI "shows" (spShowsR K CI) [] E t4 (tCons t1 (tCons t2 (tCons t3 tNil)))) σ H (.bl b) := fun H1 e Q q =>
  h4 H1 e _ fun H2 e2 => by
    obtain ⟨dx, o1, o2⟩ := hO
    exact ⟨p, dx, _, rfl, e2 _ _ (e _ _ o1), by rfl, h1 H2 (e.trans e2) _ fun H3 e3 => h2 H3 ((e.trans e2).trans e3) _ fun H4 e4 => h3 H4 (((e.trans e2).trans e3).trans e4) _ fun H5 e5 =>
      ⟨p, l, k, f, t, n, a, M, .int r, c, g, b, rfl, Ob1.mono ((((e.trans e2).trans e3).trans e4).trans e5) ⟨dx, o1, o2⟩, hk, hT.mono ((((e.trans e2).trans e3).trans e4).trans e5), ex_l ((((e.trans e2).trans e3).trans e4).trans e5) hc, gl, hb, fun H6 e6 => q H6 ((((e2.trans e3).trans e4).trans e5).trans e6)⟩⟩
end
end RW
namespace RW
open PySem PySem.Spec PyProof.Rows L2 Evl RP
section
variable {P : Program} {w : World} {K : PySem.W.Frag} {mg : Str → Option Value} {base : Heap}
/-! ### law_k01: what is told is right (printed by k01L3.py: a branch for prices, one for a ring) -/
theorem s_forPV {ps : List (V × V)} {us : List V} {tl : TE} {p : Addr} {i0 j0 : Nat} {tu : TS} {D : Ends} {σ : L2.St} {H : Hp} (h : Ev tl σ H (.ref p)) (hp : SqL K H p us) (hu : Prs H us ps) (Pv : Nat → L2.St → Hp → Prop) (h0 : ∀ H1, Ex H H1 → Pv 0 σ H1) (hx : ∀ i σ' H', Pv i σ' H' → Ex H H')
    (hs : ∀ (i : Nat) x y σ' H', ps[i]? = some (x, y) → Pv i σ' H' → tu { D with nx := Pv (i + 1), ct := Pv (i + 1), bk := D.nx } ((σ'.set i0 (some x)).set j0 (some y)) H') (hd : ∀ σ' H', Pv ps.length σ' H' → D.nx σ' H') : tFor (iList K tl) (gTup K 2 (gCons (gName i0) (gCons (gName j0) gNil))) tu D σ H := by
  refine s_forL h hp Pv h0 (fun i σ' H' hi p' => ex_l (hx _ _ _ p') hp) (fun i x σ' H' hi p' => ?_) fun σ' H' p' => hd σ' H' (by rw [← hu.len]; exact p')
  obtain ⟨q, x, y, rfl, hi', hq⟩ := hu.get hi
  exact ⟨q, _, rfl, st_of (hx _ _ _ p' _ _ hq), rfl, _, _, rfl, _, _, rfl, rfl, hs i x y σ' H' hi' p'⟩
theorem q_forPV {ps : List (V × V)} {us : List V} {tl : TE} {p : Addr} {i0 j0 : Nat} {tu tz : TS} {D : Ends} {σ : L2.St} {H : Hp} (h : Ev tl σ H (.ref p)) (hp : SqL K H p us) (hu : Prs H us ps) (Pv : Nat → L2.St → Hp → Prop) (h0 : ∀ H1, Ex H H1 → Pv 0 σ H1) (hx : ∀ i σ' H', Pv i σ' H' → Ex H H')
    (hs : ∀ (i : Nat) x y σ' H', ps[i]? = some (x, y) → Pv i σ' H' → tu { D with nx := Pv (i + 1), ct := Pv (i + 1), bk := tz D } ((σ'.set i0 (some x)).set j0 (some y)) H') (hd : ∀ σ' H', Pv ps.length σ' H' → tz D σ' H') : tSeq (tFor (iList K tl) (gTup K 2 (gCons (gName i0) (gCons (gName j0) gNil))) tu) tz D σ H := s_forPV (D := { D with nx := tz D }) h hp hu Pv h0 hx hs hd
theorem ring_b {n k : Nat} {M : Nat → Nat → Int} {g f : Nat → Nat} (R : RingP n M g f k) : RingB n M g (fun i => ((f i : Nat) : Int)) k := ⟨f, fun _ _ => rfl, R.pos, R.lt, R.inj, R.gain⟩
/-- told(..).shows(..), anew -/
theorem ev_tsP {a1 a2 a3 t1 t2 t3 : TE} {σ : L2.St} {H : Hp} {E E' : XK} {CT CR CG CP CI t c t' c' : Addr} {n : Nat} {a a' : Nat → Addr} {M : Nat → Nat → Int} {r : Int} {g : Nat → Nat} (C : Can n M g) (h1 : Ev a1 σ H (.ref t')) (h2 : Ev a2 σ H (.int r)) (h3 : Ev a3 σ H (.ref c')) (k1 : Ev t1 σ H (.ref t)) (k2 : Ev t2 σ H (.int r)) (k3 : Ev t3 σ H (.ref c))
    (hT : Tab K H t n a M) (hT' : Tab K H t' n a' M) (n0 : 0 < n) (n12 : n ≤ 12) (hc : SqL K H c (vn n g)) (hc' : SqL K H c' (vn n g)) (G : Pm n g) : Ev (tMeth CP "shows" (spShowsP K CP) [] E' (tCall (spTold K CT CR CG CP CI) [] E (tCons a1 (tCons a2 (tCons a3 tNil)))) (tCons t1 (tCons t2 (tCons t3 tNil)))) σ H (.bl true) := fun H1 e Q q =>
  h1 H1 e _ fun H2 e2 => h2 H2 (e.trans e2) _ fun H3 e3 => h3 H3 ((e.trans e2).trans e3) _ fun H4 e4 => by
    have e14 := (e2.trans e3).trans e4
    refine ⟨.ref t', .int r, .ref c', rfl, askT_good (hT'.mono (e.trans e14)) n0 n12 (askR_good (askG_good (ex_l (e.trans e14) hc') G ⟨fun _ f F p l H5 np nl e5 o => ?_, fun z => absurd C z⟩))⟩
    obtain ⟨dx, o1, o2⟩ := o
    have e15 := e14.trans e5
    exact ⟨p, dx, _, rfl, o1, by rfl, k1 H5 (e.trans e15) _ fun H6 e6 => k2 H6 ((e.trans e15).trans e6) _ fun H7 e7 => k3 H7 (((e.trans e15).trans e6).trans e7) _ fun H8 e8 =>
      ⟨p, l, n, f, t, n, a, M, r, c, g, true, rfl, Ob1.mono ((e6.trans e7).trans e8) ⟨dx, o1, o2⟩, hT.mono ((e.trans e15).trans ((e6.trans e7).trans e8)), n0, n12, ex_l ((e.trans e15).trans ((e6.trans e7).trans e8)) hc, G.lt, ⟨fun _ => ⟨rfl, F⟩, fun _ => rfl⟩, fun H9 e9 => q H9 ((e15.trans ((e6.trans e7).trans e8)).trans e9)⟩⟩
theorem ev_tsR {a1 a2 a3 t1 t2 t3 : TE} {σ : L2.St} {H : Hp} {E E' : XK} {CT CR CG CP CI t c t' c' : Addr} {n : Nat} {a a' : Nat → Addr} {M : Nat → Nat → Int} {r : Int} {g : Nat → Nat} (C : ¬ Can n M g) (h1 : Ev a1 σ H (.ref t')) (h2 : Ev a2 σ H (.int r)) (h3 : Ev a3 σ H (.ref c')) (k1 : Ev t1 σ H (.ref t)) (k2 : Ev t2 σ H (.int r)) (k3 : Ev t3 σ H (.ref c))
    (hT : Tab K H t n a M) (hT' : Tab K H t' n a' M) (n0 : 0 < n) (n12 : n ≤ 12) (hc : SqL K H c (vn n g)) (hc' : SqL K H c' (vn n g)) (G : Pm n g) : Ev (tMeth CI "shows" (spShowsR K CI) [] E' (tCall (spTold K CT CR CG CP CI) [] E (tCons a1 (tCons a2 (tCons a3 tNil)))) (tCons t1 (tCons t2 (tCons t3 tNil)))) σ H (.bl true) := fun H1 e Q q =>
  h1 H1 e _ fun H2 e2 => h2 H2 (e.trans e2) _ fun H3 e3 => h3 H3 ((e.trans e2).trans e3) _ fun H4 e4 => by
    have e14 := (e2.trans e3).trans e4
    refine ⟨.ref t', .int r, .ref c', rfl, askT_good (hT'.mono (e.trans e14)) n0 n12 (askR_good (askG_good (ex_l (e.trans e14) hc') G ⟨fun z => absurd z C, fun _ f k R p l H5 np nl e5 o => ?_⟩))⟩
    obtain ⟨dx, o1, o2⟩ := o
    have e15 := e14.trans e5
    have := R.le
    exact ⟨p, dx, _, rfl, o1, by rfl, k1 H5 (e.trans e15) _ fun H6 e6 => k2 H6 ((e.trans e15).trans e6) _ fun H7 e7 => k3 H7 (((e.trans e15).trans e6).trans e7) _ fun H8 e8 =>
      ⟨p, l, k, (fun i => ((f i : Nat) : Int)), t, n, a, M, .int r, c, g, true, rfl, Ob1.mono ((e6.trans e7).trans e8) ⟨dx, o1, o2⟩, by omega, hT.mono ((e.trans e15).trans ((e6.trans e7).trans e8)), ex_l ((e.trans e15).trans ((e6.trans e7).trans e8)) hc, G.lt, ⟨fun _ => ring_b R, fun _ => rfl⟩, fun H9 e9 => q H9 ((e15.trans ((e6.trans e7).trans e8)).trans e9)⟩⟩
def spRight (K : PySem.W.Frag) : Sp := fun vs H Q _ => ∃ t n a M r c g q0 us ps, vs = [.ref t, .int r, .ref c, .ref q0] ∧ Tab K H t n a M ∧ 0 < n ∧ n ≤ 12 ∧ SqL K H c (vn n g) ∧ Pm n g ∧ SqL K H q0 us ∧ Prs H us ps ∧
  (∀ (i : Nat) x y, ps[i]? = some (x, y) → ∃ (r' : Int) (c' : Addr) (g' : Nat → Nat), x = .int r' ∧ y = .ref c' ∧ SqL K H c' (vn n g') ∧ Pm n g') ∧ RetV (.bl true) H Q
theorem c__law_right (T : Blt mg) {CP CI CS CA CT CR CG CPr : Addr} (kl_Priced : Kl K CP) (na_Priced_prices : NoAttr K CP "prices") (kl_Ring : Kl K CI) (na_Ring_people : NoAttr K CI "people") (g_Priced : GV mg "Priced" (.ref CP)) (g_Ring : GV mg "Ring" (.ref CI)) (g_Settled : GV mg "Settled" (.ref CS)) (g_Answer : GV mg "Answer" (.ref CA))
    (is_Priced_Priced : PySem.W.kitOne K (.ref CP) (.ref CP) = some true) (isnt_Ring_Priced : PySem.W.kitOne K (.ref CI) (.ref CP) = some false) (is_Ring_Ring : PySem.W.kitOne K (.ref CI) (.ref CI) = some true) (isnt_Priced_Ring : PySem.W.kitOne K (.ref CP) (.ref CI) = some false)
    (isnt_Priced_Settled : PySem.W.kitOne K (.ref CP) (.ref CS) = some false) (isnt_Ring_Settled : PySem.W.kitOne K (.ref CI) (.ref CS) = some false) (is_Priced_Answer : PySem.W.kitOne K (.ref CP) (.ref CA) = some true) (is_Ring_Answer : PySem.W.kitOne K (.ref CI) (.ref CA) = some true)
    (c_told : Cl P w K mg base 5 "told" (spTold K CT CR CG CP CI)) (c_fit : Cl P w K mg base 4 "fit" (spFit K CT CR CG CPr)) (c__law_numbers : Cl P w K mg base 1 "_law_numbers" (spLNums K)) (c__law_due : Cl P w K mg base 2 "_law_due" (spDueA K CP CI)) (m_Priced_shows : Mt P w K mg base 2 CP "shows" (spShowsP K CP)) (m_Ring_shows : Mt P w K mg base 1 CI "shows" (spShowsR K CI))
    {f : Addr} {fd : FuncData} (F : Fun K "_law_right" "_law_right" s__law_right f fd) (g : mg "_law_right" = some (.ref f)) (b : Binds K fd P__law_right []) : Cl P w K mg base 6 "_law_right" (spRight K) := by
  refine ⟨f, fd, _, fn_lift (F.ok sc__law_right (fun vs H Q E h => ?_) (fun cdv A outer s H vs Q E hr h => ?_)), g, F.kp, b⟩
  · obtain ⟨t, n, a, M, r, c, g, q0, us, ps, rfl, _⟩ := h
    rfl
  · obtain ⟨t, n, a, M, r, c, g, q0, us, ps, rfl, hT, n0, n12, hc, G, hq0, hu, hps, q⟩ := h
    by_cases hC : Can n M g
    · refine ⟨_, (pss_cons (ps_set (i := 4) sc__law_right.nd rfl (by first | exact Or.inl rfl | exact Or.inr rfl) (pe_lst (pa_cons (pe_lc (own := [("_law_row", 9)]) rfl sc__law_right.nd (pi_l K (pv 0)) (blkOk_by (by kernel_rfl)) (fun _ _ _ _ _ => (pg_name (i := 9) sc__law_right.nd rfl (by first | exact Or.inl rfl | exact Or.inr rfl))) (fun _ _ _ _ _ => pts_nil) (fun _ _ _ _ _ => (pe_callTy (k_list K) (by rfl) T.list_ (by decide +kernel) (pa_cons (pv 9) pa_nil)))) (pa_cons (pe_callTy (k_list K) (by rfl) T.list_ (by decide +kernel) (pa_cons (pv 2) pa_nil)) pa_nil)))) (pss_cons (ps_set (i := 5) sc__law_right.nd rfl (by first | exact Or.inl rfl | exact Or.inr rfl) (pe_k c_told hr (by decide) passL (by rfl) (pa_cons (pe_ix (k_ix K) (pv 4) pe_int (fun _ _ => rfl)) (pa_cons (pv 1) (pa_cons (pe_ix (k_ix K) (pv 4) pe_int (fun _ _ => rfl)) pa_nil))))) (pss_cons (ps_if (PW.pt (pw_or (pt_not (pt_val (pe_callB (k_isi K) (by rfl) T.isinstance (by decide +kernel) (pa_cons (pv 5) (pa_cons (pe_gv g_Answer (by rfl)) pa_nil))))) (pw_or1 (pt_cmpR op_eq (pe_callB (k_isi K) (by rfl) T.isinstance (by decide +kernel) (pa_cons (pv 5) (pa_cons (pe_gv g_Priced (by rfl)) pa_nil))) (pe_callB (k_isi K) (by rfl) T.isinstance (by decide +kernel) (pa_cons (pv 5) (pa_cons (pe_gv g_Ring (by rfl)) pa_nil))) (nomark _))))) (pss_one (ps_ret pe_bl)) pss_nil) (pss_cons (ps_if (PW.pt (pw_or (pt_val (pe_callB (k_isi K) (by rfl) T.isinstance (by decide +kernel) (pa_cons (pv 5) (pa_cons (pe_gv g_Settled (by rfl)) pa_nil)))) (pw_or1 (pt_cmpR (k_neD K hr.units) (pv 4) (pe_lst (pa_cons (pv 0) (pa_cons (pv 2) pa_nil))) (nomark _))))) (pss_one (ps_ret pe_bl)) pss_nil) (pss_cons (ps_set (i := 6) sc__law_right.nd rfl (by first | exact Or.inl rfl | exact Or.inr rfl) (pe_ifExp (pt_val (pe_callB (k_isi K) (by rfl) T.isinstance (by decide +kernel) (pa_cons (pv 5) (pa_cons (pe_gv g_Priced (by rfl)) pa_nil)))) (pe_f K (pv 5) rfl) (pe_f K (pv 5) rfl))) (pss_cons (ps_if (PW.pt (pw_or (pt_not (pt_val (pe_callB (k_isi K) (by rfl) T.isinstance (by decide +kernel) (pa_cons (pv 6) (pa_cons (pe_bltn (v := .ty "list") (by rfl) T.list_ (by decide +kernel) rfl) pa_nil))))) (pw_or (pt_not (pt_val (pe_k c__law_numbers hr (by decide) passL (by rfl) (pa_cons (pv 6) (pa_cons (pe_callB (k_len K) (by rfl) T.len (by decide +kernel) (pa_cons (pv 6) pa_nil)) pa_nil))))) (pw_or1 (pt_not (pt_val (pe_k c__law_due hr (by decide) passL (by rfl) (pa_cons (pv 0) (pa_cons (pv 1) (pa_cons (pv 2) (pa_cons (pv 5) pa_nil))))))))))) (pss_one (ps_ret pe_bl)) pss_nil) (pss_cons (ps_if (pt_cmpR op_notBl (pe_mk m_Priced_shows hr (by decide) passL (pv 5) (pa_cons (pv 0) (pa_cons (pv 1) (pa_cons (pv 2) pa_nil)))) pe_bl (nomark _)) (pss_one (ps_ret pe_bl)) pss_nil) (pss_cons (ps_for PassesOwn.never rfl (pi_l K (pv 3)) (pg_t K (n := 2) rfl (pgs_cons (pg_name (i := 7) sc__law_right.nd rfl (by first | exact Or.inl rfl | exact Or.inr rfl)) (pgs_cons (pg_name (i := 8) sc__law_right.nd rfl (by first | exact Or.inl rfl | exact Or.inr rfl)) pgs_nil))) (pss_one (ps_if (pt_cmpR op_ne (pe_mk m_Priced_shows hr (by decide) passL (pv 5) (pa_cons (pv 0) (pa_cons (pv 7) (pa_cons (pv 8) pa_nil)))) (pe_k c__law_due hr (by decide) passL (by rfl) (pa_cons (pv 0) (pa_cons (pv 7) (pa_cons (pv 8) (pa_cons (pv 5) pa_nil))))) (nomark _)) (pss_one (ps_ret pe_bl)) pss_nil))) (pss_cons (ps_if (pt_val (pe_callB (k_isi K) (by rfl) T.isinstance (by decide +kernel) (pa_cons (pv 5) (pa_cons (pe_gv g_Priced (by rfl)) pa_nil)))) (pss_one (ps_if (PW.pt (pw_or (pt_cmpR op_notBl (pe_k c_fit hr (by decide) passL (by rfl) (pa_cons (pv 0) (pa_cons (pv 1) (pa_cons (pv 2) (pa_cons (pv 6) pa_nil))))) pe_bl (nomark _)) (pw_or1 (pt_cmpR op_notBl (pe_k c_fit hr (by decide) passL (by rfl) (pa_cons (pv 0) (pa_cons (pe_op op_add (pv 1) pe_int) (pa_cons (pv 2) (pa_cons (pv 6) pa_nil))))) pe_bl (nomark _))))) (pss_one (ps_ret pe_bl)) pss_nil)) pss_nil) (pss_cons (ps_expr (pe_bm PySem.F.plainAttrs_list PySem.F.slot_list_append PySem.F.type_list_append mt_append (pv 6) (pa_cons pe_int pa_nil))) (pss_cons (ps_if (pt_cmpR op_ne (pe_mk m_Priced_shows hr (by decide) passL (pv 5) (pa_cons (pv 0) (pa_cons (pv 1) (pa_cons (pv 2) pa_nil)))) (pe_k c__law_due hr (by decide) passL (by rfl) (pa_cons (pv 0) (pa_cons (pv 1) (pa_cons (pv 2) (pa_cons (pv 5) pa_nil))))) (nomark _)) (pss_one (ps_ret pe_bl)) pss_nil) (pss_cons (ps_if (pt_cmpR op_notBl (pe_mk m_Priced_shows hr (by decide) passL (pe_k c_told hr (by decide) passL (by rfl) (pa_cons (pe_ix (k_ix K) (pv 4) pe_int (fun _ _ => rfl)) (pa_cons (pv 1) (pa_cons (pe_ix (k_ix K) (pv 4) pe_int (fun _ _ => rfl)) pa_nil)))) (pa_cons (pv 0) (pa_cons (pv 1) (pa_cons (pv 2) pa_nil)))) pe_bl (nomark _)) (pss_one (ps_ret pe_bl)) pss_nil) (pss_cons (ps_expr (pe_bm0 PySem.F.plainAttrs_list PySem.F.slot_list_pop PySem.F.type_list_pop mt_pop (pv 6))) (pss_one (ps_ret (pe_and (pe_cmpR op_isBl (pe_mk m_Priced_shows hr (by decide) passL (pv 5) (pa_cons (pv 0) (pa_cons (pv 1) (pa_cons (pv 2) pa_nil)))) pe_bl (nomark _)) (pe_one (pe_cmpR (k_eqD K hr.units) (pv 4) (pe_lst (pa_cons (pv 0) (pa_cons (pv 2) pa_nil))) (nomark _))))))))))))))))))), ?_⟩
      refine q_asgTwo (em_copy (ev_var rfl) hT n12 (fun _ => rfl) fun _ => rfl) (el_copy (ev_var rfl) hc) fun ph p1 b1 p2 H3 nph e3 hph hp1 hb1 hp2 => ?_
      have hT1 : Tab K H3 p1 n b1 M := ⟨sq_of hp1, fun i hi => sq_of (hb1 i hi)⟩
      have hT3 := hT.mono e3
      have hc3 := ex_l e3 hc
      refine q_told (ev_ix (ev_var rfl) ev_c (sq_of hph) (atI_nat (j := 0) rfl)) (ev_var rfl) (ev_ix (ev_var rfl) ev_c (sq_of hph) (atI_nat (j := 1) rfl)) hT1 n0 n12 (sq_of hp2) G (fun C f p l H4 F np nl e4 o => ?_) fun z => absurd hC z
      have tru : true = true ↔ n = n ∧ Fit n M r g f := ⟨fun _ => ⟨rfl, F⟩, fun _ => rfl⟩
      have m12 : n ≤ 12 := n12
      obtain ⟨dx, c0⟩ := ob1_cells np nl e4 o
      have ins : ∀ {H5}, Ex H4 H5 → H5 p = some (.ins CP dx [("prices", .ref l)]) := fun e => e _ _ (c0.get 1)
      have ty : ∀ {H5}, Ex H4 H5 → TyX K H5 (.ref p) (.ref CP) := fun e => kl_Priced.ty (ins e)
      have hl : ∀ {H5}, Ex H4 H5 → SqL K H5 l (vl n f) := fun e => sq_of (e _ _ (c0.get 0))
      have e34 := e4
      -- its class, what was handed in
      refine q_when (b := false) (et_or (a := false) (et_no (et_B (ev_isiC (ev_var rfl) (ty (Ex.refl H4)) is_Priced_Answer))) fun _ => et_is (et_test (ev_eqB (ev_isiC (ev_var rfl) (ty (Ex.refl H4)) is_Priced_Priced) (ev_isiC (ev_var rfl) (ty (Ex.refl H4)) isnt_Priced_Ring))) rfl) (fun z => nomatch z) fun _ H5 e5 => ?_
      refine q_when (b := false) (et_or (a := false) (et_B (ev_isiC (ev_var rfl) (ty e5) isnt_Priced_Settled)) fun _ => et_is (et_test (evd_ne (evd_twoH (ev_var rfl) (sq_of ((e4.trans e5) _ _ hph)) (hT1.mono (e4.trans e5)) (sq_of ((e4.trans e5) _ _ hp2))) (evd_twoT (ev_var rfl) (ev_var rfl) (hT3.mono (e4.trans e5)) (ex_l (e4.trans e5) hc3)) flat_two flat_two)) (by rw [eqv_two]; rfl)) (fun z => nomatch z) fun _ H6 e6 => ?_
      have e46 := e5.trans e6
      refine q_asg (v := .ref l) (ev_if (b := true) (et_B (ev_isiC (ev_var rfl) (ty e46) is_Priced_Priced)) (fun _ => ev_fld (v := .ref l) (ev_var rfl) (ins e46) kl_Priced.cl na_Priced_prices (by rfl)) fun z => nomatch z) fun H7 e7 => ?_
      have e47 := e46.trans e7
      have e37 := e4.trans e47
      have hT7 := hT3.mono e37
      have hc7 := ex_l e37 hc3
      refine q_when (b := false) (et_or (a := false) (et_no (et_B (ev_isi (N := "list") (b := true) (ev_var rfl) (tyx_list (hl e47)) (by decide +kernel)))) fun _ => et_or (a := false) (et_no (et_is (et_B (ev_lnums (k := n) (ev_var rfl) (ev_lenf (ev_var rfl) (hl e47)) (hl e47) (by omega))) (decide_eq_true rfl))) fun _ => et_no (et_B (ev_dueP (ev_var rfl) (ev_var rfl) (ev_var rfl) (ev_var rfl) (o.mono e47)  hT7 n0 n12 hc7 G.lt tru))) (fun z => nomatch z) fun _ H8 e8 => ?_
      have e48 := e47.trans e8
      refine q_when (b := false) (et_is (et_test (ev_notB (ev_showsP (ev_var rfl) (ev_var rfl) (ev_var rfl) (ev_var rfl) (o.mono e48)  (hT7.mono e8) n0 n12 (ex_l e8 hc7) G.lt tru) ev_c)) (by decide)) (fun z => nomatch z) fun _ H9 e9 => ?_
      have e49 := e48.trans e9
      have e39 := e4.trans e49
      have eH9 := e3.trans e39
      -- other rents, other givings
      refine q_forPV (ps := ps) (ev_var rfl) (ex_l eH9 hq0) (hu.mono eH9) (fun i σ' H' => Ex H9 H' ∧ ∃ x7 x8, σ' = [some (.ref t), some (.int r), some (.ref c), some (.ref q0), some (.ref ph), some (.ref p), some (.ref l), x7, x8, none])
        (fun H1 e => ⟨e, _, _, rfl⟩) (fun i σ' H' h => h.1) (fun i x y σ' H' hi hW => ?_) fun σ' H' hW => ?_
      · obtain ⟨e, x7, x8, rfl⟩ := hW
        obtain ⟨r', c', g', rfl, rfl, hc', G'⟩ := hps i x y hi
        have e' := e49.trans e
        have hc'' := ex_l (eH9.trans e) hc'
        exact s_when (b := false) (et_is (et_test (ev_neB (ev_showsP (ev_var rfl) (ev_var rfl) (ev_var rfl) (ev_var rfl) (o.mono e')  (hT.mono (eH9.trans e)) n0 n12 hc'' G'.lt dec_iff) (ev_dueP (ev_var rfl) (ev_var rfl) (ev_var rfl) (ev_var rfl) (o.mono e')  (hT.mono (eH9.trans e)) n0 n12 hc'' G'.lt dec_iff))) (by rw [beq_self_eq_true]; rfl)) (fun z => nomatch z) fun _ H10 e10 => ⟨e.trans e10, _, _, rfl⟩
      · obtain ⟨e, x7, x8, rfl⟩ := hW
        have e4' := e49.trans e
        refine q_when (b := true) (et_B (ev_isiC (ev_var rfl) (ty e4') is_Priced_Priced)) (fun _ H10 e10 => ?_) fun z => nomatch z
        have e310 := e39.trans (e.trans e10)
        refine s_when (b := false) (et_or (a := false) (et_is (et_test (ev_notB (i := true) (j := true) (ev_fit (ev_var rfl) (ev_var rfl) (ev_var rfl) (ev_var rfl) (hT3.mono e310) n0 n12 (ex_l e310 hc3) G (hl (e4'.trans e10)) ⟨fun _ => F, fun _ => rfl⟩) ev_c)) (by decide)) fun _ => et_is (et_test (ev_notB (i := false) (j := false) (ev_fit (ev_var rfl) (ev_add (ev_var rfl) ev_c) (ev_var rfl) (ev_var rfl) (hT3.mono e310) n0 n12 (ex_l e310 hc3) G (hl (e4'.trans e10)) ⟨(fun z => nomatch z), fun F' => ?_⟩) ev_c)) (by decide)) (fun z => nomatch z) fun _ H10 e10' => ?_
        · have h1 := F'.sum
          rw [F.sum, Int.mul_add, Int.mul_one] at h1
          omega
        have e10 := e10.trans e10' 
        have e410 := e4'.trans e10
        have c10 := c0.mono e410
        have fin : ∀ {H11 : Hp}, Ex H3 H11 → Tab K H11 t n a M ∧ SqL K H11 c (vn n g) ∧ Tab K H11 p1 n b1 M ∧ SqL K H11 p2 (vn n g) ∧ SqL K H11 ph [.ref p1, .ref p2] := fun e => ⟨hT3.mono e, ex_l e hc3, hT1.mono e, sq_of (e _ _ hp2), sq_of (e _ _ hph)⟩
        -- it is changed
        refine q_app (xs := vl n f) (c10.get 0) (ev_var rfl) ev_c (by rw [vf_len]; omega) fun H11 e11 => ?_
        rw [vl_app]
        have c11 := c10.set 0 (.lst (vl (n + 1) (fset f n 0))) e11
        generalize upd H11 l (.lst (vl (n + 1) (fset f n 0))) = H11' at c11 ⊢
        obtain ⟨f1, f2, f3, f4, f5⟩ := fin c11.ex
        refine q_when (b := false) (et_is (et_test (ev_neB (ev_showsP (ev_var rfl) (ev_var rfl) (ev_var rfl) (ev_var rfl) ⟨dx, c11.get 1, c11.get 0⟩  f1 n0 n12 f2 G.lt dec_iff) (ev_dueP (ev_var rfl) (ev_var rfl) (ev_var rfl) (ev_var rfl) ⟨dx, c11.get 1, c11.get 0⟩  f1 n0 n12 f2 G.lt dec_iff))) (by rw [beq_self_eq_true]; rfl)) (fun z => nomatch z) fun _ H12 e12 => ?_
        have c12 := c11.mono e12
        refine q_when (b := false) (et_is (et_test (ev_notB (ev_tsP hC (ev_ix (ev_var rfl) ev_c (ex_l e12 f5) (atI_nat (j := 0) rfl)) (ev_var rfl) (ev_ix (ev_var rfl) ev_c (ex_l e12 f5) (atI_nat (j := 1) rfl)) (ev_var rfl) (ev_var rfl) (ev_var rfl) (f1.mono e12) (f3.mono e12) n0 n12 (ex_l e12 f2) (ex_l e12 f4) G) ev_c)) (by decide)) (fun z => nomatch z) fun _ H13 e13 => ?_
        have c13 := c12.mono e13
        refine q_pop (xs := vl n f) (y := .int 0) (by rw [vl_app]; exact c13.get 0) (ev_var rfl) fun H14 e14 => ?_
        have c14 := c13.set 0 (.lst (vl n f)) e14
        generalize upd H14 l (.lst (vl n f)) = H14' at c14 ⊢
        obtain ⟨f1, f2, f3, f4, f5⟩ := fin c14.ex
        refine s_ret (ev_andV (a := true) (b := true) (ev_is (ev_isB (ev_showsP (ev_var rfl) (ev_var rfl) (ev_var rfl) (ev_var rfl) ⟨dx, c14.get 1, c14.get 0⟩  f1 n0 n12 f2 G.lt tru) ev_c) (by decide)) fun _ => ev_is (evd_eq (evd_twoH (ev_var rfl) f5 f3 f4) (evd_twoT (ev_var rfl) (ev_var rfl) f1 f2) flat_two flat_two) (by rw [eqv_two])) fun H15 e15 => q H15 ((e3.trans c14.ex).trans e15)
    · refine ⟨_, (pss_cons (ps_set (i := 4) sc__law_right.nd rfl (by first | exact Or.inl rfl | exact Or.inr rfl) (pe_lst (pa_cons (pe_lc (own := [("_law_row", 9)]) rfl sc__law_right.nd (pi_l K (pv 0)) (blkOk_by (by kernel_rfl)) (fun _ _ _ _ _ => (pg_name (i := 9) sc__law_right.nd rfl (by first | exact Or.inl rfl | exact Or.inr rfl))) (fun _ _ _ _ _ => pts_nil) (fun _ _ _ _ _ => (pe_callTy (k_list K) (by rfl) T.list_ (by decide +kernel) (pa_cons (pv 9) pa_nil)))) (pa_cons (pe_callTy (k_list K) (by rfl) T.list_ (by decide +kernel) (pa_cons (pv 2) pa_nil)) pa_nil)))) (pss_cons (ps_set (i := 5) sc__law_right.nd rfl (by first | exact Or.inl rfl | exact Or.inr rfl) (pe_k c_told hr (by decide) passL (by rfl) (pa_cons (pe_ix (k_ix K) (pv 4) pe_int (fun _ _ => rfl)) (pa_cons (pv 1) (pa_cons (pe_ix (k_ix K) (pv 4) pe_int (fun _ _ => rfl)) pa_nil))))) (pss_cons (ps_if (PW.pt (pw_or (pt_not (pt_val (pe_callB (k_isi K) (by rfl) T.isinstance (by decide +kernel) (pa_cons (pv 5) (pa_cons (pe_gv g_Answer (by rfl)) pa_nil))))) (pw_or1 (pt_cmpR op_eq (pe_callB (k_isi K) (by rfl) T.isinstance (by decide +kernel) (pa_cons (pv 5) (pa_cons (pe_gv g_Priced (by rfl)) pa_nil))) (pe_callB (k_isi K) (by rfl) T.isinstance (by decide +kernel) (pa_cons (pv 5) (pa_cons (pe_gv g_Ring (by rfl)) pa_nil))) (nomark _))))) (pss_one (ps_ret pe_bl)) pss_nil) (pss_cons (ps_if (PW.pt (pw_or (pt_val (pe_callB (k_isi K) (by rfl) T.isinstance (by decide +kernel) (pa_cons (pv 5) (pa_cons (pe_gv g_Settled (by rfl)) pa_nil)))) (pw_or1 (pt_cmpR (k_neD K hr.units) (pv 4) (pe_lst (pa_cons (pv 0) (pa_cons (pv 2) pa_nil))) (nomark _))))) (pss_one (ps_ret pe_bl)) pss_nil) (pss_cons (ps_set (i := 6) sc__law_right.nd rfl (by first | exact Or.inl rfl | exact Or.inr rfl) (pe_ifExp (pt_val (pe_callB (k_isi K) (by rfl) T.isinstance (by decide +kernel) (pa_cons (pv 5) (pa_cons (pe_gv g_Priced (by rfl)) pa_nil)))) (pe_f K (pv 5) rfl) (pe_f K (pv 5) rfl))) (pss_cons (ps_if (PW.pt (pw_or (pt_not (pt_val (pe_callB (k_isi K) (by rfl) T.isinstance (by decide +kernel) (pa_cons (pv 6) (pa_cons (pe_bltn (v := .ty "list") (by rfl) T.list_ (by decide +kernel) rfl) pa_nil))))) (pw_or (pt_not (pt_val (pe_k c__law_numbers hr (by decide) passL (by rfl) (pa_cons (pv 6) (pa_cons (pe_callB (k_len K) (by rfl) T.len (by decide +kernel) (pa_cons (pv 6) pa_nil)) pa_nil))))) (pw_or1 (pt_not (pt_val (pe_k c__law_due hr (by decide) passL (by rfl) (pa_cons (pv 0) (pa_cons (pv 1) (pa_cons (pv 2) (pa_cons (pv 5) pa_nil))))))))))) (pss_one (ps_ret pe_bl)) pss_nil) (pss_cons (ps_if (pt_cmpR op_notBl (pe_mk m_Ring_shows hr (by decide) passL (pv 5) (pa_cons (pv 0) (pa_cons (pv 1) (pa_cons (pv 2) pa_nil)))) pe_bl (nomark _)) (pss_one (ps_ret pe_bl)) pss_nil) (pss_cons (ps_for PassesOwn.never rfl (pi_l K (pv 3)) (pg_t K (n := 2) rfl (pgs_cons (pg_name (i := 7) sc__law_right.nd rfl (by first | exact Or.inl rfl | exact Or.inr rfl)) (pgs_cons (pg_name (i := 8) sc__law_right.nd rfl (by first | exact Or.inl rfl | exact Or.inr rfl)) pgs_nil))) (pss_one (ps_if (pt_cmpR op_ne (pe_mk m_Ring_shows hr (by decide) passL (pv 5) (pa_cons (pv 0) (pa_cons (pv 7) (pa_cons (pv 8) pa_nil)))) (pe_k c__law_due hr (by decide) passL (by rfl) (pa_cons (pv 0) (pa_cons (pv 7) (pa_cons (pv 8) (pa_cons (pv 5) pa_nil))))) (nomark _)) (pss_one (ps_ret pe_bl)) pss_nil))) (pss_cons (ps_if (pt_val (pe_callB (k_isi K) (by rfl) T.isinstance (by decide +kernel) (pa_cons (pv 5) (pa_cons (pe_gv g_Priced (by rfl)) pa_nil)))) (pss_one (ps_if (PW.pt (pw_or (pt_cmpR op_notBl (pe_k c_fit hr (by decide) passL (by rfl) (pa_cons (pv 0) (pa_cons (pv 1) (pa_cons (pv 2) (pa_cons (pv 6) pa_nil))))) pe_bl (nomark _)) (pw_or1 (pt_cmpR op_notBl (pe_k c_fit hr (by decide) passL (by rfl) (pa_cons (pv 0) (pa_cons (pe_op op_add (pv 1) pe_int) (pa_cons (pv 2) (pa_cons (pv 6) pa_nil))))) pe_bl (nomark _))))) (pss_one (ps_ret pe_bl)) pss_nil)) pss_nil) (pss_cons (ps_expr (pe_bm PySem.F.plainAttrs_list PySem.F.slot_list_append PySem.F.type_list_append mt_append (pv 6) (pa_cons pe_int pa_nil))) (pss_cons (ps_if (pt_cmpR op_ne (pe_mk m_Ring_shows hr (by decide) passL (pv 5) (pa_cons (pv 0) (pa_cons (pv 1) (pa_cons (pv 2) pa_nil)))) (pe_k c__law_due hr (by decide) passL (by rfl) (pa_cons (pv 0) (pa_cons (pv 1) (pa_cons (pv 2) (pa_cons (pv 5) pa_nil))))) (nomark _)) (pss_one (ps_ret pe_bl)) pss_nil) (pss_cons (ps_if (pt_cmpR op_notBl (pe_mk m_Ring_shows hr (by decide) passL (pe_k c_told hr (by decide) passL (by rfl) (pa_cons (pe_ix (k_ix K) (pv 4) pe_int (fun _ _ => rfl)) (pa_cons (pv 1) (pa_cons (pe_ix (k_ix K) (pv 4) pe_int (fun _ _ => rfl)) pa_nil)))) (pa_cons (pv 0) (pa_cons (pv 1) (pa_cons (pv 2) pa_nil)))) pe_bl (nomark _)) (pss_one (ps_ret pe_bl)) pss_nil) (pss_cons (ps_expr (pe_bm0 PySem.F.plainAttrs_list PySem.F.slot_list_pop PySem.F.type_list_pop mt_pop (pv 6))) (pss_one (ps_ret (pe_and (pe_cmpR op_isBl (pe_mk m_Ring_shows hr (by decide) passL (pv 5) (pa_cons (pv 0) (pa_cons (pv 1) (pa_cons (pv 2) pa_nil)))) pe_bl (nomark _)) (pe_one (pe_cmpR (k_eqD K hr.units) (pv 4) (pe_lst (pa_cons (pv 0) (pa_cons (pv 2) pa_nil))) (nomark _))))))))))))))))))), ?_⟩
      refine q_asgTwo (em_copy (ev_var rfl) hT n12 (fun _ => rfl) fun _ => rfl) (el_copy (ev_var rfl) hc) fun ph p1 b1 p2 H3 nph e3 hph hp1 hb1 hp2 => ?_
      have hT1 : Tab K H3 p1 n b1 M := ⟨sq_of hp1, fun i hi => sq_of (hb1 i hi)⟩
      have hT3 := hT.mono e3
      have hc3 := ex_l e3 hc
      refine q_told (ev_ix (ev_var rfl) ev_c (sq_of hph) (atI_nat (j := 0) rfl)) (ev_var rfl) (ev_ix (ev_var rfl) ev_c (sq_of hph) (atI_nat (j := 1) rfl)) hT1 n0 n12 (sq_of hp2) G (fun z => absurd z hC) fun C fr k p l H4 R np nl e4 o => ?_
      have tru : true = true ↔ RingB n M g (fun i => ((fr i : Nat) : Int)) k := ⟨fun _ => ring_b R, fun _ => rfl⟩
      have m12 : k ≤ 12 := Nat.le_trans R.le n12
      obtain ⟨dx, c0⟩ := ob1_cells np nl e4 o
      have ins : ∀ {H5}, Ex H4 H5 → H5 p = some (.ins CI dx [("people", .ref l)]) := fun e => e _ _ (c0.get 1)
      have ty : ∀ {H5}, Ex H4 H5 → TyX K H5 (.ref p) (.ref CI) := fun e => kl_Ring.ty (ins e)
      have hl : ∀ {H5}, Ex H4 H5 → SqL K H5 l (vl k (fun i => ((fr i : Nat) : Int))) := fun e => sq_of (e _ _ (c0.get 0))
      have e34 := e4
      -- its class, what was handed in
      refine q_when (b := false) (et_or (a := false) (et_no (et_B (ev_isiC (ev_var rfl) (ty (Ex.refl H4)) is_Ring_Answer))) fun _ => et_is (et_test (ev_eqB (ev_isiC (ev_var rfl) (ty (Ex.refl H4)) isnt_Ring_Priced) (ev_isiC (ev_var rfl) (ty (Ex.refl H4)) is_Ring_Ring))) rfl) (fun z => nomatch z) fun _ H5 e5 => ?_
      refine q_when (b := false) (et_or (a := false) (et_B (ev_isiC (ev_var rfl) (ty e5) isnt_Ring_Settled)) fun _ => et_is (et_test (evd_ne (evd_twoH (ev_var rfl) (sq_of ((e4.trans e5) _ _ hph)) (hT1.mono (e4.trans e5)) (sq_of ((e4.trans e5) _ _ hp2))) (evd_twoT (ev_var rfl) (ev_var rfl) (hT3.mono (e4.trans e5)) (ex_l (e4.trans e5) hc3)) flat_two flat_two)) (by rw [eqv_two]; rfl)) (fun z => nomatch z) fun _ H6 e6 => ?_
      have e46 := e5.trans e6
      refine q_asg (v := .ref l) (ev_if (b := false) (et_B (ev_isiC (ev_var rfl) (ty e46) isnt_Ring_Priced)) (fun z => nomatch z) fun _ => ev_fld (v := .ref l) (ev_var rfl) (ins e46) kl_Ring.cl na_Ring_people (by rfl)) fun H7 e7 => ?_
      have e47 := e46.trans e7
      have e37 := e4.trans e47
      have hT7 := hT3.mono e37
      have hc7 := ex_l e37 hc3
      refine q_when (b := false) (et_or (a := false) (et_no (et_B (ev_isi (N := "list") (b := true) (ev_var rfl) (tyx_list (hl e47)) (by decide +kernel)))) fun _ => et_or (a := false) (et_no (et_is (et_B (ev_lnums (k := k) (ev_var rfl) (ev_lenf (ev_var rfl) (hl e47)) (hl e47) (by omega))) (decide_eq_true rfl))) fun _ => et_no (et_B (ev_dueR (ev_var rfl) (ev_var rfl) (ev_var rfl) (ev_var rfl) (o.mono e47) (by omega) hT7 n0 n12 hc7 G.lt tru))) (fun z => nomatch z) fun _ H8 e8 => ?_
      have e48 := e47.trans e8
      refine q_when (b := false) (et_is (et_test (ev_notB (ev_showsR (ev_var rfl) (ev_var rfl) (ev_var rfl) (ev_var rfl) (o.mono e48) (by omega) (hT7.mono e8)  (ex_l e8 hc7) G.lt tru) ev_c)) (by decide)) (fun z => nomatch z) fun _ H9 e9 => ?_
      have e49 := e48.trans e9
      have e39 := e4.trans e49
      have eH9 := e3.trans e39
      -- other rents, other givings
      refine q_forPV (ps := ps) (ev_var rfl) (ex_l eH9 hq0) (hu.mono eH9) (fun i σ' H' => Ex H9 H' ∧ ∃ x7 x8, σ' = [some (.ref t), some (.int r), some (.ref c), some (.ref q0), some (.ref ph), some (.ref p), some (.ref l), x7, x8, none])
        (fun H1 e => ⟨e, _, _, rfl⟩) (fun i σ' H' h => h.1) (fun i x y σ' H' hi hW => ?_) fun σ' H' hW => ?_
      · obtain ⟨e, x7, x8, rfl⟩ := hW
        obtain ⟨r', c', g', rfl, rfl, hc', G'⟩ := hps i x y hi
        have e' := e49.trans e
        have hc'' := ex_l (eH9.trans e) hc'
        exact s_when (b := false) (et_is (et_test (ev_neB (ev_showsR (ev_var rfl) (ev_var rfl) (ev_var rfl) (ev_var rfl) (o.mono e') (by omega) (hT.mono (eH9.trans e))  hc'' G'.lt dec_iff) (ev_dueR (ev_var rfl) (ev_var rfl) (ev_var rfl) (ev_var rfl) (o.mono e') (by omega) (hT.mono (eH9.trans e)) n0 n12 hc'' G'.lt dec_iff))) (by rw [beq_self_eq_true]; rfl)) (fun z => nomatch z) fun _ H10 e10 => ⟨e.trans e10, _, _, rfl⟩
      · obtain ⟨e, x7, x8, rfl⟩ := hW
        have e4' := e49.trans e
        refine q_when (b := false) (et_B (ev_isiC (ev_var rfl) (ty e4') isnt_Ring_Priced)) (fun z => nomatch z) fun _ H10 e10 => ?_
        have e410 := e4'.trans e10
        have c10 := c0.mono e410
        have fin : ∀ {H11 : Hp}, Ex H3 H11 → Tab K H11 t n a M ∧ SqL K H11 c (vn n g) ∧ Tab K H11 p1 n b1 M ∧ SqL K H11 p2 (vn n g) ∧ SqL K H11 ph [.ref p1, .ref p2] := fun e => ⟨hT3.mono e, ex_l e hc3, hT1.mono e, sq_of (e _ _ hp2), sq_of (e _ _ hph)⟩
        -- it is changed
        refine q_app (xs := vl k (fun i => ((fr i : Nat) : Int))) (c10.get 0) (ev_var rfl) ev_c (by rw [vf_len]; omega) fun H11 e11 => ?_
        rw [vl_app]
        have c11 := c10.set 0 (.lst (vl (k + 1) (fset (fun i => ((fr i : Nat) : Int)) k 0))) e11
        generalize upd H11 l (.lst (vl (k + 1) (fset (fun i => ((fr i : Nat) : Int)) k 0))) = H11' at c11 ⊢
        obtain ⟨f1, f2, f3, f4, f5⟩ := fin c11.ex
        refine q_when (b := false) (et_is (et_test (ev_neB (ev_showsR (ev_var rfl) (ev_var rfl) (ev_var rfl) (ev_var rfl) ⟨dx, c11.get 1, c11.get 0⟩ (by omega) f1  f2 G.lt dec_iff) (ev_dueR (ev_var rfl) (ev_var rfl) (ev_var rfl) (ev_var rfl) ⟨dx, c11.get 1, c11.get 0⟩ (by omega) f1 n0 n12 f2 G.lt dec_iff))) (by rw [beq_self_eq_true]; rfl)) (fun z => nomatch z) fun _ H12 e12 => ?_
        have c12 := c11.mono e12
        refine q_when (b := false) (et_is (et_test (ev_notB (ev_tsR hC (ev_ix (ev_var rfl) ev_c (ex_l e12 f5) (atI_nat (j := 0) rfl)) (ev_var rfl) (ev_ix (ev_var rfl) ev_c (ex_l e12 f5) (atI_nat (j := 1) rfl)) (ev_var rfl) (ev_var rfl) (ev_var rfl) (f1.mono e12) (f3.mono e12) n0 n12 (ex_l e12 f2) (ex_l e12 f4) G) ev_c)) (by decide)) (fun z => nomatch z) fun _ H13 e13 => ?_
        have c13 := c12.mono e13
        refine q_pop (xs := vl k (fun i => ((fr i : Nat) : Int))) (y := .int 0) (by rw [vl_app]; exact c13.get 0) (ev_var rfl) fun H14 e14 => ?_
        have c14 := c13.set 0 (.lst (vl k (fun i => ((fr i : Nat) : Int)))) e14
        generalize upd H14 l (.lst (vl k (fun i => ((fr i : Nat) : Int)))) = H14' at c14 ⊢
        obtain ⟨f1, f2, f3, f4, f5⟩ := fin c14.ex
        refine s_ret (ev_andV (a := true) (b := true) (ev_is (ev_isB (ev_showsR (ev_var rfl) (ev_var rfl) (ev_var rfl) (ev_var rfl) ⟨dx, c14.get 1, c14.get 0⟩ (by omega) f1  f2 G.lt tru) ev_c) (by decide)) fun _ => ev_is (evd_eq (evd_twoH (ev_var rfl) f5 f3 f4) (evd_twoT (ev_var rfl) (ev_var rfl) f1 f2) flat_two flat_two) (by rw [eqv_two])) fun H15 e15 => q H15 ((e3.trans c14.ex).trans e15)
end
end RW
namespace RW
open PySem PySem.Spec PyProof.Rows L2 Evl RP
section
variable {P : Program} {w : World} {K : PySem.W.Frag} {mg : Str → Option Value} {base : Heap}
def pair2 (i j : Nat) : Int := if i = j then 1 else 3
theorem pm_id (n : Nat) : Pm n id := ⟨fun _ h => h, fun _ _ _ _ h => h⟩
theorem no_pair2 : ¬ Can 2 pair2 id := fun C => by
  have S : Pm 2 (fun i => 1 - i) := ⟨fun i hi => by omega, fun i j a b c => by omega⟩
  have h : Wor 2 pair2 (fun i => 1 - i) ≤ Wor 2 pair2 id := C.most (pm_id 2) S (by omega)
  have h1 : Wor 2 pair2 (fun i => 1 - i) = 6 := rfl
  have h2 : Wor 2 pair2 id = 2 := rfl
  omega
theorem can_one : Can 1 (fun _ _ => 7) id := ⟨0, fun _ => 0, ⟨rfl, fun i j hi hj => Int.le_refl _⟩⟩
/-- two of two people, none twice: sorted, they are 0, 1 -/
theorem ring_two {g f : Nat → Nat} {k : Nat} (R : RingP 2 pair2 g f k) (hg : g = id) : srt (il k fun i => ((f i : Nat) : Int)) = il 2 fun i => (i : Int) := by
  subst hg
  have k2 := R.le
  have k0 := R.pos
  have hk : k = 2 := by
    refine Classical.byContradiction fun h => ?_
    obtain rfl : k = 1 := by omega
    have := R.gain
    have e : gainN pair2 id f 1 = 0 := by
      show 0 + RP.say pair2 id (f 0) (f (nxt 1 0)) = 0
      unfold RP.say nxt
      simp
    omega
  subst hk
  exact srt_gv.mpr ⟨f, ⟨R.lt, R.inj⟩, fun _ _ => rfl⟩
/-- told(..).FIELD of a new table, a new giving -/
theorem q_toldM {t1 t2 t3 : TE} {σ : L2.St} {H : Hp} {E : XK} {CT CR CG CP CI : Addr} {n : Nat} {M : Nat → Nat → Int} {r : Int} {g : Nat → Nat} {Q : VK} (h1 : EvM t1 σ H n fun i => vl n (M i)) (h2 : ∀ H1, Ev t2 σ H1 (.int r)) (h3 : ∀ H1, EvL t3 σ H1 (vn n g)) (n0 : 0 < n) (n12 : n ≤ 12) (G : Pm n g)
    (k1 : Can n M g → ∀ f p l H1, Fit n M r g f → Ex H H1 → Ob1 CP "prices" H1 p l (vl n f) → Q (.ref p) H1) (k2 : ¬ Can n M g → ∀ f k p l H1, RingP n M g f k → Ex H H1 → Ob1 CI "people" H1 p l (vn k f) → Q (.ref p) H1) :
    tCall (spTold K CT CR CG CP CI) [] E (tCons t1 (tCons t2 (tCons t3 tNil))) σ H Q :=
  h1 H (Ex.refl H) _ fun p a H2 _ e2 hp hr _ _ => h2 H2 H2 (Ex.refl H2) _ fun H3 e3 => h3 H3 H3 (Ex.refl H3) _ fun pc H4 _ e4 hpc => by
    have hT : Tab K H2 p n a M := ⟨sq_of hp, fun i hi => sq_of (hr i hi).2⟩
    exact ⟨.ref p, .int r, .ref pc, rfl, askT_good (hT.mono (e3.trans e4)) n0 n12 (askR_good (askG_good (sq_of hpc) G ⟨fun C f F p l H5 _ _ e5 o => k1 C f p l H5 F (((e2.trans e3).trans e4).trans e5) o, fun C f k R p l H5 _ _ e5 o => k2 C f k p l H5 R (((e2.trans e3).trans e4).trans e5) o⟩))⟩
/-- isinstance(told(..), C) -/
theorem ev_toldIs {t1 t2 t3 : TE} {σ : L2.St} {H : Hp} {E : XK} {CT CR CG CP CI t c : Addr} {n : Nat} {a : Nat → Addr} {M : Nat → Nat → Int} {r : Int} {g : Nat → Nat} {b : Bool} (kP : Kl K CP) (kI : Kl K CI) (iP : PySem.W.kitOne K (.ref CP) (.ref CP) = some true) (iI : PySem.W.kitOne K (.ref CI) (.ref CP) = some false) (h1 : Ev t1 σ H (.ref t)) (h2 : Ev t2 σ H (.int r)) (h3 : Ev t3 σ H (.ref c)) (hT : Tab K H t n a M) (n0 : 0 < n) (n12 : n ≤ 12) (hc : SqL K H c (vn n g)) (G : Pm n g) (hb : b = true ↔ Can n M g) :
    Ev (tCB (rIsi K) (tCons (tCall (spTold K CT CR CG CP CI) [] E (tCons t1 (tCons t2 (tCons t3 tNil)))) (tCons (tC (.ref CP)) tNil))) σ H (.bl b) := fun H1 e Q q =>
  h1 H1 e _ fun H2 e2 => h2 H2 (e.trans e2) _ fun H3 e3 => h3 H3 ((e.trans e2).trans e3) _ fun H4 e4 => by
    have e14 := (e2.trans e3).trans e4
    refine ⟨.ref t, .int r, .ref c, rfl, askT_good (hT.mono (e.trans e14)) n0 n12 (askR_good (askG_good (ex_l (e.trans e14) hc) G ⟨fun C f F p l H5 _ _ e5 ⟨dx, o1, _⟩ => ?_, fun C f k R p l H5 _ _ e5 ⟨dx, o1, _⟩ => ?_⟩))⟩
    · have : b = true := hb.mpr C
      subst this
      exact (ev_isiC (ta := tC (.ref p)) ev_c (kP.ty o1) iP : Ev (tCB (rIsi K) (tCons (tC (.ref p)) (tCons (tC (.ref CP)) tNil))) σ H5 (.bl true)) H5 (Ex.refl H5) Q fun H6 e6 => q H6 ((e14.trans e5).trans e6)
    · have : b = false := by
        cases b with
        | false => rfl
        | true => exact absurd (hb.mp rfl) C
      subst this
      exact (ev_isiC (ta := tC (.ref p)) ev_c (kI.ty o1) iI : Ev (tCB (rIsi K) (tCons (tC (.ref p)) (tCons (tC (.ref CP)) tNil))) σ H5 (.bl false)) H5 (Ex.refl H5) Q fun H6 e6 => q H6 ((e14.trans e5).trans e6)
theorem can_best {n : Nat} {M : Nat → Nat → Int} {r : Int} {g h : Nat → Nat} {f : Nat → Int} (F : Fit n M r g f) (G : Pm n g) (Hh : Pm n h) (n0 : 0 < n) : Can n M h ↔ Wor n M h = Wor n M g := ⟨fun C => Int.le_antisymm (F.most G Hh n0) (C.most Hh G n0), fun e => ⟨r, f, (F.iff_most G Hh n0).mpr e⟩⟩
/-- a list of pairs as an argument -/
theorem ea_pairs {t1 t2 t3 : TE} {tr : TA} {σ : L2.St} {H : Hp} {ps : List (V × V)} {x1 x2 x3 : V} {Q : List V → Hp → Prop} (h1 : Ev t1 σ H x1) (h2 : Ev t2 σ H x2) (h3 : Ev t3 σ H x3) (h : EvPA tr σ H ps) (hn : ps.length ≤ 1000) (k : ∀ p us H1, Ex H H1 → H1 p = some (.lst us) → Prs H1 us ps → Q [x1, x2, x3, .ref p] H1) :
    tCons t1 (tCons t2 (tCons t3 (tCons (tLst tr) tNil))) σ H Q := h1 H (Ex.refl H) _ fun H1 e1 => h2 H1 e1 _ fun H2 e2 => h3 H2 (e1.trans e2) _ fun H3 e3 => h H3 ((e1.trans e2).trans e3) _ fun us H4 e4 hu => ⟨by rw [hu.len]; unfold sizeLine; omega, fun p hp =>
  k p us _ ((((e1.trans e2).trans e3).trans e4).trans (Ex.new hp)) upd_same (hu.mono (Ex.new hp))⟩
end
end RW
namespace RW
open PySem PySem.Spec PyProof.Rows L2 Evl RP
section
variable {P : Program} {w : World} {K : PySem.W.Frag} {mg : Str → Option Value} {base : Heap}
/-- a rent and a giving -/
def GP (K : PySem.W.Frag) (n : Nat) (H : Hp) (x y : V) : Prop := ∃ (r' : Int) (c' : Addr) (g' : Nat → Nat), x = .int r' ∧ y = .ref c' ∧ SqL K H c' (vn n g') ∧ Pm n g'
theorem GP.mono {n : Nat} {H H' : Hp} {x y : V} (e : Ex H H') (h : GP K n H x y) : GP K n H' x y := let ⟨r, c, g, a, b, h, G⟩ := h; ⟨r, c, g, a, b, ex_l e h, G⟩
def EvGP (K : PySem.W.Frag) (n : Nat) (ta : TA) (σ : L2.St) (H : Hp) (k : Nat) : Prop := ∀ H1, Ex H H1 → ∀ Q : List V → Hp → Prop, (∀ us ps H2, ps.length = k → Ex H1 H2 → Prs H2 us ps → (∀ (i : Nat) x y, ps[i]? = some (x, y) → GP K n H2 x y) → Q us H2) → ta σ H1 Q
theorem egp_nil {n : Nat} {σ : L2.St} {H : Hp} : EvGP K n tNil σ H 0 := fun H1 _ _ q => q [] [] H1 rfl (Ex.refl H1) .nil fun i x y e => nomatch e
theorem egp_one {n k : Nat} {te : TE} {tr : TA} {σ : L2.St} {H : Hp} {x y : V} (h : EvU te σ H [x, y]) (hg : GP K n H x y) (hr : EvGP K n tr σ H k) : EvGP K n (tCons te tr) σ H (k + 1) := fun H1 e _ q => h H1 e _ fun p H2 _ e2 hp => hr H2 (e.trans e2) _ fun us ps H3 hl e3 hu hs =>
  q _ ((x, y) :: ps) H3 (by rw [List.length_cons, hl]) (e2.trans e3) (.cons (e3 _ _ hp) hu) fun i x' y' hi => by
    cases i with
    | zero =>
      cases hi
      exact hg.mono ((e.trans e2).trans e3)
    | succ i => exact hs i x' y' hi
theorem egp_rent {n k s m y : Nat} {f : Nat → Int} {t1 t2 t3 : TE} {tr : TA} {σ : L2.St} {H : Hp} {E : XK} {c : Addr} {g : Nat → Nat} (h1 : Ev t1 σ H (.ref s)) (h2 : Ev t2 σ H (.int (y : Int))) (h3 : Ev t3 σ H (.ref c)) (hs : Sc K H s m f) (y1 : y ≤ 100) (hc : SqL K H c (vn n g)) (G : Pm n g) (hr : EvGP K n tr σ H k) :
    EvGP K n (tCons (tTup (tCons (tCall (spLRent K) [] E (tCons t1 (tCons t2 tNil))) (tCons t3 tNil))) tr) σ H (k + 1) := fun H1 e _ q => h1 H1 e _ fun H2 e2 => h2 H2 (e.trans e2) _ fun H3 e3 => ⟨s, m, f, y, rfl, hs.mono ((e.trans e2).trans e3), y1, fun z H4 e4 => h3 H4 (((e.trans e2).trans e3).trans e4) _ fun H5 e5 =>
  ⟨by show 2 ≤ sizeLine; unfold sizeLine; omega, fun p hp => by
    have e15 := (((e2.trans e3).trans e4).trans e5).trans (Ex.new (o := .tup [.int z, .ref c]) hp)
    exact hr _ (e.trans e15) _ fun us ps H6 hl e6 hu hs => q _ ((.int z, .ref c) :: ps) H6 (by rw [List.length_cons, hl]) (e15.trans e6) (.cons (e6 _ _ upd_same) hu) fun i x' y' hi => by
      cases i with
      | zero =>
        cases hi
        exact ⟨z, c, g, rfl, rfl, ex_l ((e.trans e15).trans e6) hc, G⟩
      | succ i => exact hs i x' y' hi⟩⟩
theorem ev_right {t1 t2 t3 : TE} {tr : TA} {σ : L2.St} {H : Hp} {E : XK} {t c : Addr} {n k : Nat} {a : Nat → Addr} {M : Nat → Nat → Int} {r : Int} {g : Nat → Nat} (h1 : Ev t1 σ H (.ref t)) (h2 : Ev t2 σ H (.int r)) (h3 : Ev t3 σ H (.ref c)) (h4 : EvGP K n tr σ H k) (hk : k ≤ 1000) (hT : Tab K H t n a M) (n0 : 0 < n) (n12 : n ≤ 12) (hc : SqL K H c (vn n g)) (G : Pm n g) :
    Ev (tCall (spRight K) [] E (tCons t1 (tCons t2 (tCons t3 (tCons (tLst tr) tNil))))) σ H (.bl true) := fun H1 e Q q => h1 H1 e _ fun H2 e2 => h2 H2 (e.trans e2) _ fun H3 e3 => h3 H3 ((e.trans e2).trans e3) _ fun H4 e4 => h4 H4 (((e.trans e2).trans e3).trans e4) _ fun us ps H5 hl e5 hu hs => ⟨by rw [hu.len, hl]; unfold sizeLine; omega, fun p hp => by
  have eN : Ex H5 (upd H5 p (.lst us)) := Ex.new hp
  have e15 := (((e2.trans e3).trans e4).trans e5).trans eN
  exact ⟨t, n, a, M, r, c, g, p, us, ps, rfl, hT.mono (e.trans e15), n0, n12, ex_l (e.trans e15) hc, G, sq_of upd_same, hu.mono eN, fun i x y hi => (hs i x y hi).mono eN, fun H6 e6 => q H6 (e15.trans e6)⟩⟩
/-! the two by hand -/
theorem evd_hand1 {σ : L2.St} {H : Hp} {E : XK} {CT CR CG CP CI : Addr} (cl : Cls K CP) (na : NoAttr K CP "prices") : EvD K (tFld K (tCall (spTold K CT CR CG CP CI) [] E (tCons (tLst (tCons (tLst (tCons (tC (.int 7)) tNil)) tNil)) (tCons (tC (.int 5)) (tCons (tLst (tCons (tC (.int 0)) tNil)) tNil)))) "prices") σ H (dI [5]) := fun H1 e Q q =>
  q_toldM (n := 1) (M := fun _ _ => 7) (r := 5) (g := id) (em_l1 (el_lst (ea_cons ev_c ea_nil) (by show 1 ≤ 100000; decide))) (fun _ => ev_c) (fun _ => el_lst (ea_cons ev_c ea_nil) (by show 1 ≤ 100000; decide)) (by omega) (by omega) (pm_id 1) (fun _ f p l H2 F e2 ⟨dx, o1, o2⟩ => ⟨p, CP, dx, _, .ref l, rfl, o1, cl, na, by rfl, q (.ref l) H2 e2 (by
    have h1 := F.sum
    have h0 : f 0 = 5 := by
      have e : sumN 1 f = 0 + f 0 := rfl
      omega
    have h := dp_ints (K := K) (H := H2) (n := 1) (f := f) (sq_of o2)
    have e : il 1 f = [5] := by
      show [f 0] = [5]
      rw [h0]
    rw [e] at h
    exact h)⟩) fun z => absurd can_one z
theorem evd_hand2 {σ : L2.St} {H : Hp} {E : XK} {CT CR CG CP CI : Addr} (cl : Cls K CI) (na : NoAttr K CI "people") : EvD K (tCB (rSorted K) (tCons (tFld K (tCall (spTold K CT CR CG CP CI) [] E (tCons (tLst (tCons (tLst (tCons (tC (.int 1)) (tCons (tC (.int 3)) tNil))) (tCons (tLst (tCons (tC (.int 3)) (tCons (tC (.int 1)) tNil))) tNil))) (tCons (tC (.int 0)) (tCons (tLst (tCons (tC (.int 0)) (tCons (tC (.int 1)) tNil))) tNil)))) "people") tNil)) σ H (dI [0, 1]) := fun H1 e Q q =>
  q_toldM (n := 2) (M := pair2) (r := 0) (g := id) (em_l2 (el_lst (ea_cons ev_c (ea_cons ev_c ea_nil)) (by show 2 ≤ 100000; decide)) (el_lst (ea_cons ev_c (ea_cons ev_c ea_nil)) (by show 2 ≤ 100000; decide))) (fun _ => ev_c) (fun _ => el_lst (ea_cons ev_c (ea_cons ev_c ea_nil)) (by show 2 ≤ 100000; decide)) (by omega) (by omega) (pm_id 2) (fun z => absurd z no_pair2) fun _ f k p l H2 R e2 ⟨dx, o1, o2⟩ => ⟨p, CI, dx, _, .ref l, rfl, o1, cl, na, by rfl, by
    have := R.le
    have hs := el_srt (σ := σ) (ta := tC (.ref l)) (n := k) (f := fun i => ((f i : Nat) : Int)) ev_c (sq_of (K := K) (show H2 l = some (.lst (vl k fun i => ((f i : Nat) : Int))) from o2)) (by omega)
    rw [ring_two R rfl] at hs
    exact hs H2 (Ex.refl H2) Q fun p' H3 _ e3 hp' => q _ H3 (e2.trans e3) (.lst (sq_of hp') (dpa_ints [0, 1]))⟩
theorem ok_law (T : Blt mg) {CS CP CI CT CR CG : Addr} (cl_Settled : Cls K CS) (na_Settled_rooms : NoAttr K CS "rooms") (kl_Priced : Kl K CP) (na_Priced_prices : NoAttr K CP "prices") (kl_Ring : Kl K CI) (na_Ring_people : NoAttr K CI "people") (g_Priced : GV mg "Priced" (.ref CP)) (is_Priced_Priced : PySem.W.kitOne K (.ref CP) (.ref CP) = some true) (isnt_Ring_Priced : PySem.W.kitOne K (.ref CI) (.ref CP) = some false)
    (c__law_size : Cl P w K mg base 1 "_law_size" (spSize K)) (c__law_table : Cl P w K mg base 2 "_law_table" (spLTable K)) (c__law_rent : Cl P w K mg base 2 "_law_rent" (spLRent K)) (c__law_giving : Cl P w K mg base 2 "_law_giving" (spLGiving K)) (c_settled : Cl P w K mg base 5 "settled" (spSettled K CT CR CS)) (c_told : Cl P w K mg base 5 "told" (spTold K CT CR CG CP CI)) (c_worth : Cl P w K mg base 4 "worth" (spWorth K CT CG)) (c__law_right : Cl P w K mg base 6 "_law_right" (spRight K))
    {f : Addr} {fd : FuncData} (F : Fun K "law" "law" s_law f fd) : FnOk P w K mg base CX0 7 f fd P_law (spLaw K) := by
  refine F.ok sc_law (fun vs H Q E h => ?_) (fun cdv A outer s H vs Q E hr h => ?_)
  · obtain ⟨s, k, f, rfl, _⟩ := h
    rfl
  · obtain ⟨s, k, f, rfl, hs, q⟩ := h
    refine ⟨_, (pss_cons (ps_set (i := 1) sc_law.nd rfl (by first | exact Or.inl rfl | exact Or.inr rfl) (pe_callB (k_sum K) (by rfl) T.sum (by decide +kernel) (pa_cons (pe_slice (k_sl K) (pv 0) po_none (po_some pe_int)) pa_nil))) (pss_cons (ps_set (i := 2) sc_law.nd rfl (by first | exact Or.inl rfl | exact Or.inr rfl) (pe_k c__law_size hr (by decide) passL (by rfl) (pa_cons (pv 0) pa_nil))) (pss_cons (ps_set (i := 3) sc_law.nd rfl (by first | exact Or.inl rfl | exact Or.inr rfl) (pe_k c__law_table hr (by decide) passL (by rfl) (pa_cons (pv 0) (pa_cons (pv 2) pa_nil)))) (pss_cons (ps_set (i := 4) sc_law.nd rfl (by first | exact Or.inl rfl | exact Or.inr rfl) (pe_k c__law_rent hr (by decide) passL (by rfl) (pa_cons (pv 0) (pa_cons pe_int pa_nil)))) (pss_cons (ps_set (i := 5) sc_law.nd rfl (by first | exact Or.inl rfl | exact Or.inr rfl) (pe_f K (pe_k c_settled hr (by decide) passL (by rfl) (pa_cons (pv 3) (pa_cons (pv 4) pa_nil))) rfl)) (pss_cons (ps_set (i := 6) sc_law.nd rfl (by first | exact Or.inl rfl | exact Or.inr rfl) (pe_callTy (k_list K) (by rfl) T.list_ (by decide +kernel) (pa_cons (pv 5) pa_nil))) (pss_cons (ps_par (i := 7) (j := 8) (by rfl) sc_law.nd rfl rfl (by decide) rfl rfl (pa_cons (pe_op op_mod (pe_op op_fdivW (pv 1) pe_int) (pv 2)) (pa_cons (pe_op op_mod (pe_op op_fdivW (pv 1) pe_int) (pv 2)) pa_nil)) (by rfl)) (pss_cons (ps_asg (pe_tup (pa_cons (pe_ix (k_ix K) (pv 6) (pv 8) (fun _ _ => rfl)) (pa_cons (pe_ix (k_ix K) (pv 6) (pv 7) (fun _ _ => rfl)) pa_nil))) (pg_t K (n := 2) rfl (pgs_cons (pg_sub (pv 6) (pv 7) set_list) (pgs_cons (pg_sub (pv 6) (pv 8) set_list) pgs_nil)))) (pss_cons (ps_set (i := 9) sc_law.nd rfl (by first | exact Or.inl rfl | exact Or.inr rfl) (pe_k c__law_giving hr (by decide) passL (by rfl) (pa_cons (pv 0) (pa_cons (pv 2) (pa_cons pe_int pa_nil))))) (pss_cons (ps_for PassesOwn.never rfl (pi_l K (pe_lst (pa_cons (pv 9) (pa_cons (pv 5) (pa_cons (pv 6) (pa_cons (pe_listRg rfl (by rfl) T.list_ (prg_1 (by rfl) T.range (pv 2))) pa_nil)))))) (pg_name (i := 10) sc_law.nd rfl (by first | exact Or.inl rfl | exact Or.inr rfl)) (pss_cons (ps_if (pt_cmpR op_ne (pe_k c_worth hr (by decide) passL (by rfl) (pa_cons (pv 3) (pa_cons (pv 10) pa_nil))) (pe_callB (k_sum K) (by rfl) T.sum (by decide +kernel) (pa_cons (pe_lc (own := [("_law_who", 11), ("_law_room", 12)]) rfl sc_law.nd (pi_en K (by rfl) T.enumerate (pa_cons (pv 10) pa_nil)) (blkOk_by (by kernel_rfl)) (fun _ _ _ _ _ => (pg_t K (n := 2) rfl (pgs_cons (pg_name (i := 11) sc_law.nd rfl (by first | exact Or.inl rfl | exact Or.inr rfl)) (pgs_cons (pg_name (i := 12) sc_law.nd rfl (by first | exact Or.inl rfl | exact Or.inr rfl)) pgs_nil)))) (fun _ _ _ _ _ => pts_nil) (fun _ _ _ _ _ => (pe_ix (k_ix K) (pe_ix (k_ix K) (pv 3) (pv 11) (fun _ _ => rfl)) (pv 12) (fun _ _ => rfl)))) pa_nil)) (nomark _)) (pss_one (ps_ret pe_bl)) pss_nil) (pss_one (ps_if (pt_not (pt_val (pe_k c__law_right hr (by decide) passL (by rfl) (pa_cons (pv 3) (pa_cons (pv 4) (pa_cons (pv 10) (pa_cons (pe_lst (pa_cons (pe_tup (pa_cons (pe_op op_add (pv 4) pe_int) (pa_cons (pv 10) pa_nil))) (pa_cons (pe_tup (pa_cons (pv 4) (pa_cons (pv 9) pa_nil))) (pa_cons (pe_tup (pa_cons (pe_k c__law_rent hr (by decide) passL (by rfl) (pa_cons (pv 0) (pa_cons pe_int pa_nil))) (pa_cons (pv 5) pa_nil))) pa_nil)))) pa_nil))))))) (pss_one (ps_ret pe_bl)) pss_nil)))) (pss_cons (ps_if (pt_not (pt_val (pe_callB (k_isi K) (by rfl) T.isinstance (by decide +kernel) (pa_cons (pe_k c_told hr (by decide) passL (by rfl) (pa_cons (pv 3) (pa_cons (pv 4) (pa_cons (pv 5) pa_nil)))) (pa_cons (pe_gv g_Priced (by rfl)) pa_nil))))) (pss_one (ps_ret pe_bl)) pss_nil) (pss_cons (ps_if (pt_cmpR op_ne (pe_callB (k_isi K) (by rfl) T.isinstance (by decide +kernel) (pa_cons (pe_k c_told hr (by decide) passL (by rfl) (pa_cons (pv 3) (pa_cons (pv 4) (pa_cons (pv 6) pa_nil)))) (pa_cons (pe_gv g_Priced (by rfl)) pa_nil))) (pe_cmpR op_eq (pe_k c_worth hr (by decide) passL (by rfl) (pa_cons (pv 3) (pa_cons (pv 6) pa_nil))) (pe_k c_worth hr (by decide) passL (by rfl) (pa_cons (pv 3) (pa_cons (pv 5) pa_nil))) (nomark _)) (nomark _)) (pss_one (ps_ret pe_bl)) pss_nil) (pss_one (ps_ret (pe_and (pe_cmpR (k_eqD K hr.units) (pe_f K (pe_k c_told hr (by decide) passL (by rfl) (pa_cons (pe_lst (pa_cons (pe_lst (pa_cons pe_int pa_nil)) pa_nil)) (pa_cons pe_int (pa_cons (pe_lst (pa_cons pe_int pa_nil)) pa_nil)))) rfl) (pe_lst (pa_cons pe_int pa_nil)) (nomark _)) (pe_one (pe_cmpR (k_eqD K hr.units) (pe_callB (k_sorted K) (by rfl) T.sorted (by decide +kernel) (pa_cons (pe_f K (pe_k c_told hr (by decide) passL (by rfl) (pa_cons (pe_lst (pa_cons (pe_lst (pa_cons pe_int (pa_cons pe_int pa_nil))) (pa_cons (pe_lst (pa_cons pe_int (pa_cons pe_int pa_nil))) pa_nil))) (pa_cons pe_int (pa_cons (pe_lst (pa_cons pe_int (pa_cons pe_int pa_nil))) pa_nil)))) rfl) pa_nil)) (pe_lst (pa_cons pe_int (pa_cons pe_int pa_nil))) (nomark _)))))))))))))))))), ?_⟩
    refine q_asg (ev_sumL (el_cut hs (ev_var rfl))) fun H1 e1 => ?_
    generalize sumN k f = wh
    refine q_size (ev_var rfl) (hs.mono e1) fun n H2 n1 n12 e2 => ?_
    refine q_table (ev_var rfl) (ev_var rfl) (hs.mono (e1.trans e2)) n1 n12 fun M pt a H3 npt e3 hT => ?_
    refine q_rent (y := 0) (ev_var rfl) ev_c (hs.mono ((e1.trans e2).trans e3)) (by decide) fun r H4 e4 => ?_
    refine q_rooms cl_Settled na_Settled_rooms (ev_var rfl) (ev_var rfl) (hT.mono e4) n1 n12 fun g fp pg H5 G F npg e5 hpg => ?_
    refine q_asgL (el_copy (ev_var rfl) (sq_of hpg)) fun pb H6 npb e6 hpb => ?_
    have hm : ∀ d : Int, 0 < d → ∃ i : Nat, i < n ∧ wh / d % (n : Int) = (i : Int) := fun d _ => by
      have a0 := Int.emod_nonneg (wh / d) (b := (n : Int)) (by omega)
      have a1 := Int.emod_lt_of_pos (wh / d) (b := (n : Int)) (by omega)
      exact ⟨(wh / d % (n : Int)).toNat, by omega, by omega⟩
    obtain ⟨m7, hm7, e7'⟩ := hm 11 (by decide)
    obtain ⟨m3, hm3, e3'⟩ := hm 3 (by decide)
    refine q_par (v := .int (m3 : Int)) (x := .int (m7 : Int)) (ea_cons (ev_is (ev_mod (ev_fdiv (ev_var rfl) ev_c (by decide) (by decide)) (ev_var rfl) (by omega)) (by rw [e3'])) (ea_cons (ev_is (ev_mod (ev_fdiv (ev_var rfl) ev_c (by decide) (by decide)) (ev_var rfl) (by omega)) (by rw [e7'])) ea_nil)) fun H7 e7 => ?_
    refine q_swap (i := m3) (j := m7) (e7 _ _ hpb) hm3 hm7 (ev_var rfl) (ev_var rfl) (ev_var rfl) (ev_var rfl) (fun _ => ev_var rfl) (fun _ => ev_var rfl) (fun _ => ev_var rfl) (fun _ => ev_var rfl) fun H8 H9 e8 e9 => ?_
    have G2 := pm_swap G hm3 hm7
    generalize fset (fset g m3 (g m7)) m7 (g m3) = g2 at G2 ⊢
    have e510 : Ex H5 (upd H9 pb (.lst (vn n g2))) := Ex.mut (Ex.trans (Ex.mut ((e6.trans e7).trans e8) npb) e9) npb
    have hpb2 : upd H9 pb (.lst (vn n g2)) pb = some (.lst (vn n g2)) := upd_same
    generalize upd H9 pb (.lst (vn n g2)) = H10 at e510 hpb2 ⊢
    have e110 : Ex H H10 := (((((e1.trans e2).trans e3).trans e4).trans e5).trans e510)
    refine q_asgP (elp_giving (y := 0) (ev_var rfl) (ev_var rfl) ev_c (hs.mono e110) n12 (by decide)) fun pd H11 xs hS npd e11 hpd => ?_
    obtain ⟨gd, Gd, rfl⟩ := hS
    have e511 := e510.trans e11
    have e111 := e110.trans e11
    have hT11 := hT.mono ((e4.trans e5).trans e511)
    refine q_forGs (n := n) (k := 4) (egs_one (ev_var rfl) (sq_of hpd) Gd (egs_one (ev_var rfl) (sq_of (e511 _ _ hpg)) G (egs_one (ev_var rfl) (sq_of (e11 _ _ hpb2)) G2 (egs_new (S := fun xs => xs = vn n id) (EvL.p (el_rng (n := n) (ev_var rfl) (by omega)) rfl) (fun xs h => ⟨id, pm_id n, h⟩) egs_nil)))) (by decide)
      (fun H1 σ' H' => Ex H1 H' ∧ ∃ x10, σ' = [some (.ref s), some (.int wh), some (.int (n : Int)), some (.ref pt), some (.int r), some (.ref pg), some (.ref pb), some (.int (m3 : Int)), some (.int (m7 : Int)), some (.ref pd), x10, none, none])
      (fun H1 H2 e e2 => ⟨e2, _, rfl⟩) (fun H1 σ' H' _ h => h.1) (fun H1 c h σ' H' eH hc Gh hW => ?_) fun H1 σ' H' eH hW => ?_
    · obtain ⟨e, x10, rfl⟩ := hW
      have hT' := hT11.mono (eH.trans e)
      have hc' := ex_l e hc
      refine q_when (b := false) (et_is (et_test (ev_neI (ev_worth (ev_var rfl) (ev_var rfl) hT' n1 n12 hc' Gh) (ev_sumL (n := n) (f := fun i => M i (h i)) (el_lcE _ (ea_cons (ev_var rfl) ea_nil) hc' (by omega) (fun _ _ => rfl) fun i H12 e12 hi => ev_ixl (ev_ixr (ev_var rfl) (ev_var rfl) ((hT'.mono e12).rows) hi) (ev_var rfl) ((hT'.mono e12).row i hi) (Gh.lt i hi))))) (by rw [decide_eq_true (show Wor n M h = sumN n fun i => M i (h i) from rfl)]; rfl)) (fun z => nomatch z) fun _ H12 e12 => ?_
      have e12' := e.trans e12
      have e1112 := eH.trans e12'
      refine s_when (b := false) (et_no (et_B (ev_right (k := 3) (ev_var rfl) (ev_var rfl) (ev_var rfl) (egp_one (eu_tup (ea_cons (ev_add (ev_var rfl) ev_c) (ea_cons (ev_var rfl) ea_nil)) (by show 2 ≤ 100000; decide)) ⟨_, _, h, rfl, rfl, ex_l e12' hc, Gh⟩ (egp_one (eu_tup (ea_cons (ev_var rfl) (ea_cons (ev_var rfl) ea_nil)) (by show 2 ≤ 100000; decide)) ⟨r, pd, gd, rfl, rfl, sq_of (e1112 _ _ hpd), Gd⟩ (egp_rent (y := 1) (ev_var rfl) ev_c (ev_var rfl) (hs.mono (e111.trans e1112)) (by decide) (sq_of (e1112 _ _ (e511 _ _ hpg))) G egp_nil))) (by decide) (hT11.mono e1112) n1 n12 (ex_l e12' hc) Gh))) (fun z => nomatch z) fun _ H13 e13 => ⟨e12'.trans e13, _, rfl⟩
    · obtain ⟨e, x10, rfl⟩ := hW
      have e' := eH.trans e
      have hT' := hT11.mono e'
      have hg' : ∀ {H2}, Ex H' H2 → SqL K H2 pg (vn n g) := fun e2 => sq_of (e2 _ _ (e' _ _ (e511 _ _ hpg)))
      have hb' : ∀ {H2}, Ex H' H2 → SqL K H2 pb (vn n g2) := fun e2 => sq_of (e2 _ _ (e' _ _ (e11 _ _ hpb2)))
      refine q_when (b := false) (et_no (et_B (ev_toldIs kl_Priced kl_Ring is_Priced_Priced isnt_Ring_Priced (ev_var rfl) (ev_var rfl) (ev_var rfl) hT' n1 n12 (hg' (Ex.refl H')) G ⟨fun _ => F.can, fun _ => rfl⟩))) (fun z => nomatch z) fun _ H12 e12 => ?_
      refine q_when (b := false) (et_is (et_test (ev_neB (ev_toldIs (b := decide (Wor n M g2 = Wor n M g)) kl_Priced kl_Ring is_Priced_Priced isnt_Ring_Priced (ev_var rfl) (ev_var rfl) (ev_var rfl) (hT'.mono e12) n1 n12 (hb' e12) G2 (by rw [decide_eq_true_iff]; exact (can_best F G G2 n1).symm)) (ev_eqI (ev_worth (ev_var rfl) (ev_var rfl) (hT'.mono e12) n1 n12 (hb' e12) G2) (ev_worth (ev_var rfl) (ev_var rfl) (hT'.mono e12) n1 n12 (hg' e12) G)))) (by rw [beq_self_eq_true]; rfl)) (fun z => nomatch z) fun _ H13 e13 => ?_
      refine s_ret (ev_andV (a := true) (b := true) (ev_is (evd_eq (evd_hand1 kl_Priced.cl na_Priced_prices) (evd_lst (ns := [5]) (el_lst (ea_cons ev_c ea_nil) (by show 1 ≤ 100000; decide))) (dI_shaped _) (dI_shaped _)) (by rw [eqv_ints]; rfl)) fun _ => ev_is (evd_eq (evd_hand2 kl_Ring.cl na_Ring_people) (evd_lst (ns := [0, 1]) (el_lst (ea_cons ev_c (ea_cons ev_c ea_nil)) (by show 2 ≤ 100000; decide))) (dI_shaped _) (dI_shaped _)) (by rw [eqv_ints]; rfl)) fun H14 e14 => q H14 ((e111.trans e').trans ((e12.trans e13).trans e14))
end
end RW
namespace RW
open PySem PySem.Spec PyProof.Rows L2 Evl RP
/-! ### the facts of the written part, the end (printed by end.py) -/
theorem all_mk {l : PySem.W.OpenLaw} {w : World} {K : PySem.W.Frag} {h : Heap} {mg : Str → Option Value} {fa : Addr} (X : K.In h) (G : h.Ns mainGlobals mg) (hfa : mg "law" = some (.ref fa))
    {f_is_number : Addr}
    {od_is_number an_is_number : Option Addr} {sl_is_number : Array (Option Value)} {oc_is_number kV_is_number dc_is_number pm_is_number cd_is_number ct_is_number : Value}
    {f_are_numbers : Addr}
    {od_are_numbers an_are_numbers : Option Addr} {sl_are_numbers : Array (Option Value)} {oc_are_numbers kV_are_numbers dc_are_numbers pm_are_numbers cd_are_numbers ct_are_numbers : Value}
    {f_asked_table : Addr}
    {od_asked_table an_asked_table : Option Addr} {sl_asked_table : Array (Option Value)} {oc_asked_table kV_asked_table dc_asked_table pm_asked_table cd_asked_table ct_asked_table : Value}
    {t_MOST : _}
    {a_BadTable : Addr}
    {f_asked_rent : Addr}
    {od_asked_rent an_asked_rent : Option Addr} {sl_asked_rent : Array (Option Value)} {oc_asked_rent kV_asked_rent dc_asked_rent pm_asked_rent cd_asked_rent ct_asked_rent : Value}
    {a_BadRent : Addr}
    {f_asked_giving : Addr}
    {od_asked_giving an_asked_giving : Option Addr} {sl_asked_giving : Array (Option Value)} {oc_asked_giving kV_asked_giving dc_asked_giving pm_asked_giving cd_asked_giving ct_asked_giving : Value}
    {a_BadGiving : Addr}
    {f_asked_prices : Addr}
    {od_asked_prices an_asked_prices : Option Addr} {sl_asked_prices : Array (Option Value)} {oc_asked_prices kV_asked_prices dc_asked_prices pm_asked_prices cd_asked_prices ct_asked_prices : Value}
    {a_BadPrices : Addr}
    {f_are_fit : Addr}
    {od_are_fit an_are_fit : Option Addr} {sl_are_fit : Array (Option Value)} {oc_are_fit kV_are_fit dc_are_fit pm_are_fit cd_are_fit ct_are_fit : Value}
    {f_fit : Addr}
    {od_fit an_fit : Option Addr} {sl_fit : Array (Option Value)} {oc_fit kV_fit dc_fit pm_fit cd_fit ct_fit : Value}
    {f_worth : Addr}
    {od_worth an_worth : Option Addr} {sl_worth : Array (Option Value)} {oc_worth kV_worth dc_worth pm_worth cd_worth ct_worth : Value}
    {f_owners : Addr}
    {od_owners an_owners : Option Addr} {sl_owners : Array (Option Value)} {oc_owners kV_owners dc_owners pm_owners cd_owners ct_owners : Value}
    {f_gaps : Addr}
    {od_gaps an_gaps : Option Addr} {sl_gaps : Array (Option Value)} {oc_gaps kV_gaps dc_gaps pm_gaps cd_gaps ct_gaps : Value}
    {f_barring : Addr}
    {od_barring an_barring : Option Addr} {sl_barring : Array (Option Value)} {oc_barring kV_barring dc_barring pm_barring cd_barring ct_barring : Value}
    {f_Priced_init : Addr}
    {od_Priced_init an_Priced_init : Option Addr} {sl_Priced_init : Array (Option Value)} {oc_Priced_init kV_Priced_init dc_Priced_init pm_Priced_init cd_Priced_init ct_Priced_init : Value}
    {a_Priced : Addr}
    {f_Ring_init : Addr}
    {od_Ring_init an_Ring_init : Option Addr} {sl_Ring_init : Array (Option Value)} {oc_Ring_init kV_Ring_init dc_Ring_init pm_Ring_init cd_Ring_init ct_Ring_init : Value}
    {a_Ring : Addr}
    {f_Settled_init : Addr}
    {od_Settled_init an_Settled_init : Option Addr} {sl_Settled_init : Array (Option Value)} {oc_Settled_init kV_Settled_init dc_Settled_init pm_Settled_init cd_Settled_init ct_Settled_init : Value}
    {a_Settled : Addr}
    {f_bounds : Addr}
    {od_bounds an_bounds : Option Addr} {sl_bounds : Array (Option Value)} {oc_bounds kV_bounds dc_bounds pm_bounds cd_bounds ct_bounds : Value}
    {f_told_of : Addr}
    {od_told_of an_told_of : Option Addr} {sl_told_of : Array (Option Value)} {oc_told_of kV_told_of dc_told_of pm_told_of cd_told_of ct_told_of : Value}
    {f_put_in : Addr}
    {od_put_in an_put_in : Option Addr} {sl_put_in : Array (Option Value)} {oc_put_in kV_put_in dc_put_in pm_put_in cd_put_in ct_put_in : Value}
    {f_best : Addr}
    {od_best an_best : Option Addr} {sl_best : Array (Option Value)} {oc_best kV_best dc_best pm_best cd_best ct_best : Value}
    {f_settled : Addr}
    {od_settled an_settled : Option Addr} {sl_settled : Array (Option Value)} {oc_settled kV_settled dc_settled pm_settled cd_settled ct_settled : Value}
    {f_told : Addr}
    {od_told an_told : Option Addr} {sl_told : Array (Option Value)} {oc_told kV_told dc_told pm_told cd_told ct_told : Value}
    {f_Priced_shows : Addr}
    {od_Priced_shows an_Priced_shows : Option Addr} {sl_Priced_shows : Array (Option Value)} {oc_Priced_shows kV_Priced_shows dc_Priced_shows pm_Priced_shows cd_Priced_shows ct_Priced_shows : Value}
    {f_Ring_shows : Addr}
    {od_Ring_shows an_Ring_shows : Option Addr} {sl_Ring_shows : Array (Option Value)} {oc_Ring_shows kV_Ring_shows dc_Ring_shows pm_Ring_shows cd_Ring_shows ct_Ring_shows : Value}
    {f__law_number : Addr}
    {od__law_number an__law_number : Option Addr} {sl__law_number : Array (Option Value)} {oc__law_number kV__law_number dc__law_number pm__law_number cd__law_number ct__law_number : Value}
    {f__law_size : Addr}
    {od__law_size an__law_size : Option Addr} {sl__law_size : Array (Option Value)} {oc__law_size kV__law_size dc__law_size pm__law_size cd__law_size ct__law_size : Value}
    {f__law_table : Addr}
    {od__law_table an__law_table : Option Addr} {sl__law_table : Array (Option Value)} {oc__law_table kV__law_table dc__law_table pm__law_table cd__law_table ct__law_table : Value}
    {f__law_giving : Addr}
    {od__law_giving an__law_giving : Option Addr} {sl__law_giving : Array (Option Value)} {oc__law_giving kV__law_giving dc__law_giving pm__law_giving cd__law_giving ct__law_giving : Value}
    {f__law_rent : Addr}
    {od__law_rent an__law_rent : Option Addr} {sl__law_rent : Array (Option Value)} {oc__law_rent kV__law_rent dc__law_rent pm__law_rent cd__law_rent ct__law_rent : Value}
    {f__law_fit : Addr}
    {od__law_fit an__law_fit : Option Addr} {sl__law_fit : Array (Option Value)} {oc__law_fit kV__law_fit dc__law_fit pm__law_fit cd__law_fit ct__law_fit : Value}
    {f__law_numbers : Addr}
    {od__law_numbers an__law_numbers : Option Addr} {sl__law_numbers : Array (Option Value)} {oc__law_numbers kV__law_numbers dc__law_numbers pm__law_numbers cd__law_numbers ct__law_numbers : Value}
    {f__law_more : Addr}
    {od__law_more an__law_more : Option Addr} {sl__law_more : Array (Option Value)} {oc__law_more kV__law_more dc__law_more pm__law_more cd__law_more ct__law_more : Value}
    {f__law_due : Addr}
    {od__law_due an__law_due : Option Addr} {sl__law_due : Array (Option Value)} {oc__law_due kV__law_due dc__law_due pm__law_due cd__law_due ct__law_due : Value}
    {f__law_right : Addr}
    {od__law_right an__law_right : Option Addr} {sl__law_right : Array (Option Value)} {oc__law_right kV__law_right dc__law_right pm__law_right cd__law_right ct__law_right : Value}
    {a_Answer : Addr}
    {f_law : Addr}
    {od_law an_law : Option Addr} {sl_law : Array (Option Value)} {oc_law kV_law dc_law pm_law cd_law ct_law : Value}
    (z_len : PySem.W.nsIn K mainGlobals "len" = some none)
    (z_range : PySem.W.nsIn K mainGlobals "range" = some none)
    (z_list : PySem.W.nsIn K mainGlobals "list" = some none)
    (z_sum : PySem.W.nsIn K mainGlobals "sum" = some none)
    (z_zip : PySem.W.nsIn K mainGlobals "zip" = some none)
    (z_enumerate : PySem.W.nsIn K mainGlobals "enumerate" = some none)
    (z_min : PySem.W.nsIn K mainGlobals "min" = some none)
    (z_max : PySem.W.nsIn K mainGlobals "max" = some none)
    (z_sorted : PySem.W.nsIn K mainGlobals "sorted" = some none)
    (z_isinstance : PySem.W.nsIn K mainGlobals "isinstance" = some none)
    (z_all : PySem.W.nsIn K mainGlobals "all" = some none)
    (z_any : PySem.W.nsIn K mainGlobals "any" = some none)
    (z_int : PySem.W.nsIn K mainGlobals "int" = some none)
    (z_bool : PySem.W.nsIn K mainGlobals "bool" = some none)
    (z_str : PySem.W.nsIn K mainGlobals "str" = some none)
    (z_tuple : PySem.W.nsIn K mainGlobals "tuple" = some none)
    (z_abs : PySem.W.nsIn K mainGlobals "abs" = some none)
    (z_set : PySem.W.nsIn K mainGlobals "set" = some none)
    (z_ValueError : PySem.W.nsIn K mainGlobals "ValueError" = some none)
    (a_is_number : PySem.W.nsIn K mainGlobals "is_number" = some (some (.ref f_is_number)))
    (l_is_number : K.lookup f_is_number = some ⟨oc_is_number, od_is_number, .func (PySem.W.fnOf "is_number" "is_number" (defArgs s_is_number) (defBody s_is_number) (defScope s_is_number) .none kV_is_number dc_is_number pm_is_number an_is_number cd_is_number ct_is_number), sl_is_number⟩)
    (c_is_number : PySem.W.codeIn K cd_is_number "is_number" = true)
    (k_is_number : PySem.W.keepIn K (.ref f_is_number) = true)
    (a_are_numbers : PySem.W.nsIn K mainGlobals "are_numbers" = some (some (.ref f_are_numbers)))
    (l_are_numbers : K.lookup f_are_numbers = some ⟨oc_are_numbers, od_are_numbers, .func (PySem.W.fnOf "are_numbers" "are_numbers" (defArgs s_are_numbers) (defBody s_are_numbers) (defScope s_are_numbers) .none kV_are_numbers dc_are_numbers pm_are_numbers an_are_numbers cd_are_numbers ct_are_numbers), sl_are_numbers⟩)
    (c_are_numbers : PySem.W.codeIn K cd_are_numbers "are_numbers" = true)
    (k_are_numbers : PySem.W.keepIn K (.ref f_are_numbers) = true)
    (a_asked_table : PySem.W.nsIn K mainGlobals "asked_table" = some (some (.ref f_asked_table)))
    (l_asked_table : K.lookup f_asked_table = some ⟨oc_asked_table, od_asked_table, .func (PySem.W.fnOf "asked_table" "asked_table" (defArgs s_asked_table) (defBody s_asked_table) (defScope s_asked_table) .none kV_asked_table dc_asked_table pm_asked_table an_asked_table cd_asked_table ct_asked_table), sl_asked_table⟩)
    (c_asked_table : PySem.W.codeIn K cd_asked_table "asked_table" = true)
    (k_asked_table : PySem.W.keepIn K (.ref f_asked_table) = true)
    (aV_MOST : PySem.W.nsIn K mainGlobals "MOST" = some (some (.int 12 t_MOST)))
    (aC_BadTable : PySem.W.nsIn K mainGlobals "BadTable" = some (some (.ref a_BadTable)))
    (x1_BadTable : PySem.W.excIn K a_BadTable [.type "ValueError", .type "Exception", .type "BaseException", .type "object"] "ValueError.__new__" = true)
    (x2_BadTable : PySem.W.keepIn K (.ref a_BadTable) = true)
    (x3_BadTable : PySem.W.subIn K (.ref a_BadTable) (.type "BaseException") = some true)
    (x4_BadTable : PySem.W.typeIn K (.ref a_BadTable) = some (.type "type"))
    (a_asked_rent : PySem.W.nsIn K mainGlobals "asked_rent" = some (some (.ref f_asked_rent)))
    (l_asked_rent : K.lookup f_asked_rent = some ⟨oc_asked_rent, od_asked_rent, .func (PySem.W.fnOf "asked_rent" "asked_rent" (defArgs s_asked_rent) (defBody s_asked_rent) (defScope s_asked_rent) .none kV_asked_rent dc_asked_rent pm_asked_rent an_asked_rent cd_asked_rent ct_asked_rent), sl_asked_rent⟩)
    (c_asked_rent : PySem.W.codeIn K cd_asked_rent "asked_rent" = true)
    (k_asked_rent : PySem.W.keepIn K (.ref f_asked_rent) = true)
    (aC_BadRent : PySem.W.nsIn K mainGlobals "BadRent" = some (some (.ref a_BadRent)))
    (x1_BadRent : PySem.W.excIn K a_BadRent [.type "ValueError", .type "Exception", .type "BaseException", .type "object"] "ValueError.__new__" = true)
    (x2_BadRent : PySem.W.keepIn K (.ref a_BadRent) = true)
    (x3_BadRent : PySem.W.subIn K (.ref a_BadRent) (.type "BaseException") = some true)
    (x4_BadRent : PySem.W.typeIn K (.ref a_BadRent) = some (.type "type"))
    (a_asked_giving : PySem.W.nsIn K mainGlobals "asked_giving" = some (some (.ref f_asked_giving)))
    (l_asked_giving : K.lookup f_asked_giving = some ⟨oc_asked_giving, od_asked_giving, .func (PySem.W.fnOf "asked_giving" "asked_giving" (defArgs s_asked_giving) (defBody s_asked_giving) (defScope s_asked_giving) .none kV_asked_giving dc_asked_giving pm_asked_giving an_asked_giving cd_asked_giving ct_asked_giving), sl_asked_giving⟩)
    (c_asked_giving : PySem.W.codeIn K cd_asked_giving "asked_giving" = true)
    (k_asked_giving : PySem.W.keepIn K (.ref f_asked_giving) = true)
    (aC_BadGiving : PySem.W.nsIn K mainGlobals "BadGiving" = some (some (.ref a_BadGiving)))
    (x1_BadGiving : PySem.W.excIn K a_BadGiving [.type "ValueError", .type "Exception", .type "BaseException", .type "object"] "ValueError.__new__" = true)
    (x2_BadGiving : PySem.W.keepIn K (.ref a_BadGiving) = true)
    (x3_BadGiving : PySem.W.subIn K (.ref a_BadGiving) (.type "BaseException") = some true)
    (x4_BadGiving : PySem.W.typeIn K (.ref a_BadGiving) = some (.type "type"))
    (a_asked_prices : PySem.W.nsIn K mainGlobals "asked_prices" = some (some (.ref f_asked_prices)))
    (l_asked_prices : K.lookup f_asked_prices = some ⟨oc_asked_prices, od_asked_prices, .func (PySem.W.fnOf "asked_prices" "asked_prices" (defArgs s_asked_prices) (defBody s_asked_prices) (defScope s_asked_prices) .none kV_asked_prices dc_asked_prices pm_asked_prices an_asked_prices cd_asked_prices ct_asked_prices), sl_asked_prices⟩)
    (c_asked_prices : PySem.W.codeIn K cd_asked_prices "asked_prices" = true)
    (k_asked_prices : PySem.W.keepIn K (.ref f_asked_prices) = true)
    (aC_BadPrices : PySem.W.nsIn K mainGlobals "BadPrices" = some (some (.ref a_BadPrices)))
    (x1_BadPrices : PySem.W.excIn K a_BadPrices [.type "ValueError", .type "Exception", .type "BaseException", .type "object"] "ValueError.__new__" = true)
    (x2_BadPrices : PySem.W.keepIn K (.ref a_BadPrices) = true)
    (x3_BadPrices : PySem.W.subIn K (.ref a_BadPrices) (.type "BaseException") = some true)
    (x4_BadPrices : PySem.W.typeIn K (.ref a_BadPrices) = some (.type "type"))
    (a_are_fit : PySem.W.nsIn K mainGlobals "are_fit" = some (some (.ref f_are_fit)))
    (l_are_fit : K.lookup f_are_fit = some ⟨oc_are_fit, od_are_fit, .func (PySem.W.fnOf "are_fit" "are_fit" (defArgs s_are_fit) (defBody s_are_fit) (defScope s_are_fit) .none kV_are_fit dc_are_fit pm_are_fit an_are_fit cd_are_fit ct_are_fit), sl_are_fit⟩)
    (c_are_fit : PySem.W.codeIn K cd_are_fit "are_fit" = true)
    (k_are_fit : PySem.W.keepIn K (.ref f_are_fit) = true)
    (a_fit : PySem.W.nsIn K mainGlobals "fit" = some (some (.ref f_fit)))
    (l_fit : K.lookup f_fit = some ⟨oc_fit, od_fit, .func (PySem.W.fnOf "fit" "fit" (defArgs s_fit) (defBody s_fit) (defScope s_fit) .none kV_fit dc_fit pm_fit an_fit cd_fit ct_fit), sl_fit⟩)
    (c_fit : PySem.W.codeIn K cd_fit "fit" = true)
    (k_fit : PySem.W.keepIn K (.ref f_fit) = true)
    (a_worth : PySem.W.nsIn K mainGlobals "worth" = some (some (.ref f_worth)))
    (l_worth : K.lookup f_worth = some ⟨oc_worth, od_worth, .func (PySem.W.fnOf "worth" "worth" (defArgs s_worth) (defBody s_worth) (defScope s_worth) .none kV_worth dc_worth pm_worth an_worth cd_worth ct_worth), sl_worth⟩)
    (c_worth : PySem.W.codeIn K cd_worth "worth" = true)
    (k_worth : PySem.W.keepIn K (.ref f_worth) = true)
    (a_owners : PySem.W.nsIn K mainGlobals "owners" = some (some (.ref f_owners)))
    (l_owners : K.lookup f_owners = some ⟨oc_owners, od_owners, .func (PySem.W.fnOf "owners" "owners" (defArgs s_owners) (defBody s_owners) (defScope s_owners) .none kV_owners dc_owners pm_owners an_owners cd_owners ct_owners), sl_owners⟩)
    (c_owners : PySem.W.codeIn K cd_owners "owners" = true)
    (k_owners : PySem.W.keepIn K (.ref f_owners) = true)
    (a_gaps : PySem.W.nsIn K mainGlobals "gaps" = some (some (.ref f_gaps)))
    (l_gaps : K.lookup f_gaps = some ⟨oc_gaps, od_gaps, .func (PySem.W.fnOf "gaps" "gaps" (defArgs s_gaps) (defBody s_gaps) (defScope s_gaps) .none kV_gaps dc_gaps pm_gaps an_gaps cd_gaps ct_gaps), sl_gaps⟩)
    (c_gaps : PySem.W.codeIn K cd_gaps "gaps" = true)
    (k_gaps : PySem.W.keepIn K (.ref f_gaps) = true)
    (a_barring : PySem.W.nsIn K mainGlobals "barring" = some (some (.ref f_barring)))
    (l_barring : K.lookup f_barring = some ⟨oc_barring, od_barring, .func (PySem.W.fnOf "barring" "barring" (defArgs s_barring) (defBody s_barring) (defScope s_barring) .none kV_barring dc_barring pm_barring an_barring cd_barring ct_barring), sl_barring⟩)
    (c_barring : PySem.W.codeIn K cd_barring "barring" = true)
    (k_barring : PySem.W.keepIn K (.ref f_barring) = true)
    (aC_Priced : PySem.W.nsIn K mainGlobals "Priced" = some (some (.ref a_Priced)))
    (aM_Priced_init : PySem.W.findIn K (.ref a_Priced) "__init__" = some (some (.ref f_Priced_init)))
    (iM_Priced_init : PySem.W.isFn K (.ref f_Priced_init) = true)
    (l_Priced_init : K.lookup f_Priced_init = some ⟨oc_Priced_init, od_Priced_init, .func (PySem.W.fnOf "__init__" "Priced.__init__" (defArgs s_Priced_init) (defBody s_Priced_init) (defScope s_Priced_init) .none kV_Priced_init dc_Priced_init pm_Priced_init an_Priced_init cd_Priced_init ct_Priced_init), sl_Priced_init⟩)
    (c_Priced_init : PySem.W.codeIn K cd_Priced_init "Priced.__init__" = true)
    (k_Priced_init : PySem.W.keepIn K (.ref f_Priced_init) = true)
    (pg_Priced : PySem.W.plainGet K a_Priced Str.empty = true)
    (hd_Priced : PySem.W.hasDictIn K a_Priced = true)
    (po_Priced : PySem.W.plainOver K a_Priced = true)
    (sa_Priced : PySem.W.findIn K (.ref a_Priced) "__setattr__" = some (some (.builtin "object.__setattr__")))
    (na_Priced_prices : PySem.W.findIn K (.ref a_Priced) "prices" = some none)
    (mi_Priced : PySem.W.makesIn K a_Priced = true)
    (kp_Priced : PySem.W.keepIn K (.ref a_Priced) = true)
    (aC_Ring : PySem.W.nsIn K mainGlobals "Ring" = some (some (.ref a_Ring)))
    (aM_Ring_init : PySem.W.findIn K (.ref a_Ring) "__init__" = some (some (.ref f_Ring_init)))
    (iM_Ring_init : PySem.W.isFn K (.ref f_Ring_init) = true)
    (l_Ring_init : K.lookup f_Ring_init = some ⟨oc_Ring_init, od_Ring_init, .func (PySem.W.fnOf "__init__" "Ring.__init__" (defArgs s_Ring_init) (defBody s_Ring_init) (defScope s_Ring_init) .none kV_Ring_init dc_Ring_init pm_Ring_init an_Ring_init cd_Ring_init ct_Ring_init), sl_Ring_init⟩)
    (c_Ring_init : PySem.W.codeIn K cd_Ring_init "Ring.__init__" = true)
    (k_Ring_init : PySem.W.keepIn K (.ref f_Ring_init) = true)
    (pg_Ring : PySem.W.plainGet K a_Ring Str.empty = true)
    (hd_Ring : PySem.W.hasDictIn K a_Ring = true)
    (po_Ring : PySem.W.plainOver K a_Ring = true)
    (sa_Ring : PySem.W.findIn K (.ref a_Ring) "__setattr__" = some (some (.builtin "object.__setattr__")))
    (na_Ring_people : PySem.W.findIn K (.ref a_Ring) "people" = some none)
    (mi_Ring : PySem.W.makesIn K a_Ring = true)
    (kp_Ring : PySem.W.keepIn K (.ref a_Ring) = true)
    (aC_Settled : PySem.W.nsIn K mainGlobals "Settled" = some (some (.ref a_Settled)))
    (aM_Settled_init : PySem.W.findIn K (.ref a_Settled) "__init__" = some (some (.ref f_Settled_init)))
    (iM_Settled_init : PySem.W.isFn K (.ref f_Settled_init) = true)
    (l_Settled_init : K.lookup f_Settled_init = some ⟨oc_Settled_init, od_Settled_init, .func (PySem.W.fnOf "__init__" "Settled.__init__" (defArgs s_Settled_init) (defBody s_Settled_init) (defScope s_Settled_init) .none kV_Settled_init dc_Settled_init pm_Settled_init an_Settled_init cd_Settled_init ct_Settled_init), sl_Settled_init⟩)
    (c_Settled_init : PySem.W.codeIn K cd_Settled_init "Settled.__init__" = true)
    (k_Settled_init : PySem.W.keepIn K (.ref f_Settled_init) = true)
    (pg_Settled : PySem.W.plainGet K a_Settled Str.empty = true)
    (hd_Settled : PySem.W.hasDictIn K a_Settled = true)
    (po_Settled : PySem.W.plainOver K a_Settled = true)
    (sa_Settled : PySem.W.findIn K (.ref a_Settled) "__setattr__" = some (some (.builtin "object.__setattr__")))
    (na_Settled_rooms : PySem.W.findIn K (.ref a_Settled) "rooms" = some none)
    (na_Settled_prices : PySem.W.findIn K (.ref a_Settled) "prices" = some none)
    (mi_Settled : PySem.W.makesIn K a_Settled = true)
    (kp_Settled : PySem.W.keepIn K (.ref a_Settled) = true)
    (a_bounds : PySem.W.nsIn K mainGlobals "bounds" = some (some (.ref f_bounds)))
    (l_bounds : K.lookup f_bounds = some ⟨oc_bounds, od_bounds, .func (PySem.W.fnOf "bounds" "bounds" (defArgs s_bounds) (defBody s_bounds) (defScope s_bounds) .none kV_bounds dc_bounds pm_bounds an_bounds cd_bounds ct_bounds), sl_bounds⟩)
    (c_bounds : PySem.W.codeIn K cd_bounds "bounds" = true)
    (k_bounds : PySem.W.keepIn K (.ref f_bounds) = true)
    (a_told_of : PySem.W.nsIn K mainGlobals "told_of" = some (some (.ref f_told_of)))
    (l_told_of : K.lookup f_told_of = some ⟨oc_told_of, od_told_of, .func (PySem.W.fnOf "told_of" "told_of" (defArgs s_told_of) (defBody s_told_of) (defScope s_told_of) .none kV_told_of dc_told_of pm_told_of an_told_of cd_told_of ct_told_of), sl_told_of⟩)
    (c_told_of : PySem.W.codeIn K cd_told_of "told_of" = true)
    (k_told_of : PySem.W.keepIn K (.ref f_told_of) = true)
    (a_put_in : PySem.W.nsIn K mainGlobals "put_in" = some (some (.ref f_put_in)))
    (l_put_in : K.lookup f_put_in = some ⟨oc_put_in, od_put_in, .func (PySem.W.fnOf "put_in" "put_in" (defArgs s_put_in) (defBody s_put_in) (defScope s_put_in) .none kV_put_in dc_put_in pm_put_in an_put_in cd_put_in ct_put_in), sl_put_in⟩)
    (c_put_in : PySem.W.codeIn K cd_put_in "put_in" = true)
    (k_put_in : PySem.W.keepIn K (.ref f_put_in) = true)
    (a_best : PySem.W.nsIn K mainGlobals "best" = some (some (.ref f_best)))
    (l_best : K.lookup f_best = some ⟨oc_best, od_best, .func (PySem.W.fnOf "best" "best" (defArgs s_best) (defBody s_best) (defScope s_best) .none kV_best dc_best pm_best an_best cd_best ct_best), sl_best⟩)
    (c_best : PySem.W.codeIn K cd_best "best" = true)
    (k_best : PySem.W.keepIn K (.ref f_best) = true)
    (a_settled : PySem.W.nsIn K mainGlobals "settled" = some (some (.ref f_settled)))
    (l_settled : K.lookup f_settled = some ⟨oc_settled, od_settled, .func (PySem.W.fnOf "settled" "settled" (defArgs s_settled) (defBody s_settled) (defScope s_settled) .none kV_settled dc_settled pm_settled an_settled cd_settled ct_settled), sl_settled⟩)
    (c_settled : PySem.W.codeIn K cd_settled "settled" = true)
    (k_settled : PySem.W.keepIn K (.ref f_settled) = true)
    (a_told : PySem.W.nsIn K mainGlobals "told" = some (some (.ref f_told)))
    (l_told : K.lookup f_told = some ⟨oc_told, od_told, .func (PySem.W.fnOf "told" "told" (defArgs s_told) (defBody s_told) (defScope s_told) .none kV_told dc_told pm_told an_told cd_told ct_told), sl_told⟩)
    (c_told : PySem.W.codeIn K cd_told "told" = true)
    (k_told : PySem.W.keepIn K (.ref f_told) = true)
    (aM_Priced_shows : PySem.W.findIn K (.ref a_Priced) "shows" = some (some (.ref f_Priced_shows)))
    (iM_Priced_shows : PySem.W.isFn K (.ref f_Priced_shows) = true)
    (l_Priced_shows : K.lookup f_Priced_shows = some ⟨oc_Priced_shows, od_Priced_shows, .func (PySem.W.fnOf "shows" "Priced.shows" (defArgs s_Priced_shows) (defBody s_Priced_shows) (defScope s_Priced_shows) .none kV_Priced_shows dc_Priced_shows pm_Priced_shows an_Priced_shows cd_Priced_shows ct_Priced_shows), sl_Priced_shows⟩)
    (c_Priced_shows : PySem.W.codeIn K cd_Priced_shows "Priced.shows" = true)
    (k_Priced_shows : PySem.W.keepIn K (.ref f_Priced_shows) = true)
    (aM_Ring_shows : PySem.W.findIn K (.ref a_Ring) "shows" = some (some (.ref f_Ring_shows)))
    (iM_Ring_shows : PySem.W.isFn K (.ref f_Ring_shows) = true)
    (l_Ring_shows : K.lookup f_Ring_shows = some ⟨oc_Ring_shows, od_Ring_shows, .func (PySem.W.fnOf "shows" "Ring.shows" (defArgs s_Ring_shows) (defBody s_Ring_shows) (defScope s_Ring_shows) .none kV_Ring_shows dc_Ring_shows pm_Ring_shows an_Ring_shows cd_Ring_shows ct_Ring_shows), sl_Ring_shows⟩)
    (c_Ring_shows : PySem.W.codeIn K cd_Ring_shows "Ring.shows" = true)
    (k_Ring_shows : PySem.W.keepIn K (.ref f_Ring_shows) = true)
    (a__law_number : PySem.W.nsIn K mainGlobals "_law_number" = some (some (.ref f__law_number)))
    (l__law_number : K.lookup f__law_number = some ⟨oc__law_number, od__law_number, .func (PySem.W.fnOf "_law_number" "_law_number" (defArgs s__law_number) (defBody s__law_number) (defScope s__law_number) .none kV__law_number dc__law_number pm__law_number an__law_number cd__law_number ct__law_number), sl__law_number⟩)
    (c__law_number : PySem.W.codeIn K cd__law_number "_law_number" = true)
    (k__law_number : PySem.W.keepIn K (.ref f__law_number) = true)
    (a__law_size : PySem.W.nsIn K mainGlobals "_law_size" = some (some (.ref f__law_size)))
    (l__law_size : K.lookup f__law_size = some ⟨oc__law_size, od__law_size, .func (PySem.W.fnOf "_law_size" "_law_size" (defArgs s__law_size) (defBody s__law_size) (defScope s__law_size) .none kV__law_size dc__law_size pm__law_size an__law_size cd__law_size ct__law_size), sl__law_size⟩)
    (c__law_size : PySem.W.codeIn K cd__law_size "_law_size" = true)
    (k__law_size : PySem.W.keepIn K (.ref f__law_size) = true)
    (a__law_table : PySem.W.nsIn K mainGlobals "_law_table" = some (some (.ref f__law_table)))
    (l__law_table : K.lookup f__law_table = some ⟨oc__law_table, od__law_table, .func (PySem.W.fnOf "_law_table" "_law_table" (defArgs s__law_table) (defBody s__law_table) (defScope s__law_table) .none kV__law_table dc__law_table pm__law_table an__law_table cd__law_table ct__law_table), sl__law_table⟩)
    (c__law_table : PySem.W.codeIn K cd__law_table "_law_table" = true)
    (k__law_table : PySem.W.keepIn K (.ref f__law_table) = true)
    (a__law_giving : PySem.W.nsIn K mainGlobals "_law_giving" = some (some (.ref f__law_giving)))
    (l__law_giving : K.lookup f__law_giving = some ⟨oc__law_giving, od__law_giving, .func (PySem.W.fnOf "_law_giving" "_law_giving" (defArgs s__law_giving) (defBody s__law_giving) (defScope s__law_giving) .none kV__law_giving dc__law_giving pm__law_giving an__law_giving cd__law_giving ct__law_giving), sl__law_giving⟩)
    (c__law_giving : PySem.W.codeIn K cd__law_giving "_law_giving" = true)
    (k__law_giving : PySem.W.keepIn K (.ref f__law_giving) = true)
    (a__law_rent : PySem.W.nsIn K mainGlobals "_law_rent" = some (some (.ref f__law_rent)))
    (l__law_rent : K.lookup f__law_rent = some ⟨oc__law_rent, od__law_rent, .func (PySem.W.fnOf "_law_rent" "_law_rent" (defArgs s__law_rent) (defBody s__law_rent) (defScope s__law_rent) .none kV__law_rent dc__law_rent pm__law_rent an__law_rent cd__law_rent ct__law_rent), sl__law_rent⟩)
    (c__law_rent : PySem.W.codeIn K cd__law_rent "_law_rent" = true)
    (k__law_rent : PySem.W.keepIn K (.ref f__law_rent) = true)
    (a__law_fit : PySem.W.nsIn K mainGlobals "_law_fit" = some (some (.ref f__law_fit)))
    (l__law_fit : K.lookup f__law_fit = some ⟨oc__law_fit, od__law_fit, .func (PySem.W.fnOf "_law_fit" "_law_fit" (defArgs s__law_fit) (defBody s__law_fit) (defScope s__law_fit) .none kV__law_fit dc__law_fit pm__law_fit an__law_fit cd__law_fit ct__law_fit), sl__law_fit⟩)
    (c__law_fit : PySem.W.codeIn K cd__law_fit "_law_fit" = true)
    (k__law_fit : PySem.W.keepIn K (.ref f__law_fit) = true)
    (a__law_numbers : PySem.W.nsIn K mainGlobals "_law_numbers" = some (some (.ref f__law_numbers)))
    (l__law_numbers : K.lookup f__law_numbers = some ⟨oc__law_numbers, od__law_numbers, .func (PySem.W.fnOf "_law_numbers" "_law_numbers" (defArgs s__law_numbers) (defBody s__law_numbers) (defScope s__law_numbers) .none kV__law_numbers dc__law_numbers pm__law_numbers an__law_numbers cd__law_numbers ct__law_numbers), sl__law_numbers⟩)
    (c__law_numbers : PySem.W.codeIn K cd__law_numbers "_law_numbers" = true)
    (k__law_numbers : PySem.W.keepIn K (.ref f__law_numbers) = true)
    (a__law_more : PySem.W.nsIn K mainGlobals "_law_more" = some (some (.ref f__law_more)))
    (l__law_more : K.lookup f__law_more = some ⟨oc__law_more, od__law_more, .func (PySem.W.fnOf "_law_more" "_law_more" (defArgs s__law_more) (defBody s__law_more) (defScope s__law_more) .none kV__law_more dc__law_more pm__law_more an__law_more cd__law_more ct__law_more), sl__law_more⟩)
    (c__law_more : PySem.W.codeIn K cd__law_more "_law_more" = true)
    (k__law_more : PySem.W.keepIn K (.ref f__law_more) = true)
    (a__law_due : PySem.W.nsIn K mainGlobals "_law_due" = some (some (.ref f__law_due)))
    (l__law_due : K.lookup f__law_due = some ⟨oc__law_due, od__law_due, .func (PySem.W.fnOf "_law_due" "_law_due" (defArgs s__law_due) (defBody s__law_due) (defScope s__law_due) .none kV__law_due dc__law_due pm__law_due an__law_due cd__law_due ct__law_due), sl__law_due⟩)
    (c__law_due : PySem.W.codeIn K cd__law_due "_law_due" = true)
    (k__law_due : PySem.W.keepIn K (.ref f__law_due) = true)
    (ha_Priced : PySem.W.findIn K (.ref a_Priced) "__class__" = some (some (.builtin "object.__class__")))
    (hn_obj : PySem.W.specialIn K (.builtin "object.__class__") "__get__" = some (some (.builtin "getset_descriptor.__get__")))
    (ht_obj : PySem.W.takesIn K (.builtin "object.__class__") = some true)
    (hm_Priced : PySem.W.mroIn K a_Priced (.type "object") = some true)
    (ha_Ring : PySem.W.findIn K (.ref a_Ring) "__class__" = some (some (.builtin "object.__class__")))
    (hm_Ring : PySem.W.mroIn K a_Ring (.type "object") = some true)
    (is_Priced_Priced : PySem.W.kitOne K (.ref a_Priced) (.ref a_Priced) = some true)
    (isnt_Ring_Priced : PySem.W.kitOne K (.ref a_Ring) (.ref a_Priced) = some false)
    (a__law_right : PySem.W.nsIn K mainGlobals "_law_right" = some (some (.ref f__law_right)))
    (l__law_right : K.lookup f__law_right = some ⟨oc__law_right, od__law_right, .func (PySem.W.fnOf "_law_right" "_law_right" (defArgs s__law_right) (defBody s__law_right) (defScope s__law_right) .none kV__law_right dc__law_right pm__law_right an__law_right cd__law_right ct__law_right), sl__law_right⟩)
    (c__law_right : PySem.W.codeIn K cd__law_right "_law_right" = true)
    (k__law_right : PySem.W.keepIn K (.ref f__law_right) = true)
    (aC_Answer : PySem.W.nsIn K mainGlobals "Answer" = some (some (.ref a_Answer)))
    (is_Ring_Ring : PySem.W.kitOne K (.ref a_Ring) (.ref a_Ring) = some true)
    (isnt_Priced_Ring : PySem.W.kitOne K (.ref a_Priced) (.ref a_Ring) = some false)
    (isnt_Priced_Settled : PySem.W.kitOne K (.ref a_Priced) (.ref a_Settled) = some false)
    (isnt_Ring_Settled : PySem.W.kitOne K (.ref a_Ring) (.ref a_Settled) = some false)
    (is_Priced_Answer : PySem.W.kitOne K (.ref a_Priced) (.ref a_Answer) = some true)
    (is_Ring_Answer : PySem.W.kitOne K (.ref a_Ring) (.ref a_Answer) = some true)
    (a_law : PySem.W.nsIn K mainGlobals "law" = some (some (.ref f_law)))
    (l_law : K.lookup f_law = some ⟨oc_law, od_law, .func (PySem.W.fnOf "law" "law" (defArgs s_law) (defBody s_law) (defScope s_law) .none kV_law dc_law pm_law an_law cd_law ct_law), sl_law⟩)
    (c_law : PySem.W.codeIn K cd_law "law" = true)
    (k_law : PySem.W.keepIn K (.ref f_law) = true) :
    ∃ fd : FuncData, (∀ (s : Shared) (v : Value), BindsTo s fd ⟨[v], []⟩ [("_law_script", v)]) ∧ ∀ base : Heap, K.In base → base.Ns mainGlobals mg → FnOk l.prog w K mg base CX0 7 fa fd ["_law_script"] (spLaw K) := by
  have e := hfa.symm.trans (PySem.W.mg_of X G a_law)
  cases e
  refine ⟨PySem.W.fnOf "law" "law" (defArgs s_law) (defBody s_law) (defScope s_law) .none kV_law dc_law pm_law an_law cd_law ct_law, fun s v => .of_eq rfl, fun base _ _ => ?_⟩
  have T := ({ len := PySem.W.mg_none_of X G z_len, range := PySem.W.mg_none_of X G z_range, list_ := PySem.W.mg_none_of X G z_list, sum := PySem.W.mg_none_of X G z_sum, zip := PySem.W.mg_none_of X G z_zip, enumerate := PySem.W.mg_none_of X G z_enumerate, min_ := PySem.W.mg_none_of X G z_min, max_ := PySem.W.mg_none_of X G z_max, sorted := PySem.W.mg_none_of X G z_sorted, isinstance := PySem.W.mg_none_of X G z_isinstance, all_ := PySem.W.mg_none_of X G z_all, any_ := PySem.W.mg_none_of X G z_any, int := PySem.W.mg_none_of X G z_int, bool := PySem.W.mg_none_of X G z_bool, str_ := PySem.W.mg_none_of X G z_str, tuple := PySem.W.mg_none_of X G z_tuple, abs := PySem.W.mg_none_of X G z_abs, set_ := PySem.W.mg_none_of X G z_set, ValueError := PySem.W.mg_none_of X G z_ValueError } : Blt mg)
  have F_is_number := fun_mk (st := s_is_number) l_is_number c_is_number k_is_number
  have b_is_number := F_is_number.binds (ps := P_is_number) fun _ _ _ _ _ _ us hl => match us, hl with | [_], _ => rfl
  have d_c_is_number := RW.c_is_number (P := l.prog) (w := w) (base := base) T F_is_number (PySem.W.mg_of X G a_is_number) b_is_number
  have F_are_numbers := fun_mk (st := s_are_numbers) l_are_numbers c_are_numbers k_are_numbers
  have b_are_numbers := F_are_numbers.binds (ps := P_are_numbers) fun _ _ _ _ _ _ us hl => match us, hl with | [_, _], _ => rfl
  have d_c_are_numbers := RW.c_are_numbers (P := l.prog) (w := w) (base := base) T d_c_is_number F_are_numbers (PySem.W.mg_of X G a_are_numbers) b_are_numbers
  have F_asked_table := fun_mk (st := s_asked_table) l_asked_table c_asked_table k_asked_table
  have b_asked_table := F_asked_table.binds (ps := P_asked_table) fun _ _ _ _ _ _ us hl => match us, hl with | [_], _ => rfl
  have dg_MOST := (⟨_, PySem.W.mg_of X G aV_MOST, ⟨_, rfl⟩⟩ : GV mg "MOST" (.int 12))
  have mg_BadTable := PySem.W.mg_of X G aC_BadTable
  have dx_BadTable := (⟨mg_BadTable, x1_BadTable, x2_BadTable, x3_BadTable, x4_BadTable⟩ : Xc K mg "BadTable" a_BadTable)
  have d_c_asked_table := RW.c_asked_table (P := l.prog) (w := w) (base := base) T dg_MOST dx_BadTable d_c_are_numbers F_asked_table (PySem.W.mg_of X G a_asked_table) b_asked_table
  have F_asked_rent := fun_mk (st := s_asked_rent) l_asked_rent c_asked_rent k_asked_rent
  have b_asked_rent := F_asked_rent.binds (ps := P_asked_rent) fun _ _ _ _ _ _ us hl => match us, hl with | [_], _ => rfl
  have mg_BadRent := PySem.W.mg_of X G aC_BadRent
  have dx_BadRent := (⟨mg_BadRent, x1_BadRent, x2_BadRent, x3_BadRent, x4_BadRent⟩ : Xc K mg "BadRent" a_BadRent)
  have d_c_asked_rent := RW.c_asked_rent (P := l.prog) (w := w) (base := base) T dx_BadRent d_c_is_number F_asked_rent (PySem.W.mg_of X G a_asked_rent) b_asked_rent
  have F_asked_giving := fun_mk (st := s_asked_giving) l_asked_giving c_asked_giving k_asked_giving
  have b_asked_giving := F_asked_giving.binds (ps := P_asked_giving) fun _ _ _ _ _ _ us hl => match us, hl with | [_, _], _ => rfl
  have mg_BadGiving := PySem.W.mg_of X G aC_BadGiving
  have dx_BadGiving := (⟨mg_BadGiving, x1_BadGiving, x2_BadGiving, x3_BadGiving, x4_BadGiving⟩ : Xc K mg "BadGiving" a_BadGiving)
  have d_c_asked_giving := RW.c_asked_giving (P := l.prog) (w := w) (base := base) T dx_BadGiving d_c_are_numbers F_asked_giving (PySem.W.mg_of X G a_asked_giving) b_asked_giving
  have F_asked_prices := fun_mk (st := s_asked_prices) l_asked_prices c_asked_prices k_asked_prices
  have b_asked_prices := F_asked_prices.binds (ps := P_asked_prices) fun _ _ _ _ _ _ us hl => match us, hl with | [_, _], _ => rfl
  have mg_BadPrices := PySem.W.mg_of X G aC_BadPrices
  have dx_BadPrices := (⟨mg_BadPrices, x1_BadPrices, x2_BadPrices, x3_BadPrices, x4_BadPrices⟩ : Xc K mg "BadPrices" a_BadPrices)
  have d_c_asked_prices := RW.c_asked_prices (P := l.prog) (w := w) (base := base) T dx_BadPrices d_c_are_numbers F_asked_prices (PySem.W.mg_of X G a_asked_prices) b_asked_prices
  have F_are_fit := fun_mk (st := s_are_fit) l_are_fit c_are_fit k_are_fit
  have b_are_fit := F_are_fit.binds (ps := P_are_fit) fun _ _ _ _ _ _ us hl => match us, hl with | [_, _, _, _], _ => rfl
  have d_c_are_fit := RW.c_are_fit (P := l.prog) (w := w) (base := base) T F_are_fit (PySem.W.mg_of X G a_are_fit) b_are_fit
  have F_fit := fun_mk (st := s_fit) l_fit c_fit k_fit
  have b_fit := F_fit.binds (ps := P_fit) fun _ _ _ _ _ _ us hl => match us, hl with | [_, _, _, _], _ => rfl
  have d_c_fit := RW.c_fit (P := l.prog) (w := w) (base := base) d_c_asked_table d_c_asked_rent d_c_asked_giving d_c_asked_prices d_c_are_fit F_fit (PySem.W.mg_of X G a_fit) b_fit
  have F_worth := fun_mk (st := s_worth) l_worth c_worth k_worth
  have b_worth := F_worth.binds (ps := P_worth) fun _ _ _ _ _ _ us hl => match us, hl with | [_, _], _ => rfl
  have d_c_worth := RW.c_worth (P := l.prog) (w := w) (base := base) T d_c_asked_table d_c_asked_giving F_worth (PySem.W.mg_of X G a_worth) b_worth
  have F_owners := fun_mk (st := s_owners) l_owners c_owners k_owners
  have b_owners := F_owners.binds (ps := P_owners) fun _ _ _ _ _ _ us hl => match us, hl with | [_], _ => rfl
  have d_c_owners := RW.c_owners (P := l.prog) (w := w) (base := base) T F_owners (PySem.W.mg_of X G a_owners) b_owners
  have F_gaps := fun_mk (st := s_gaps) l_gaps c_gaps k_gaps
  have b_gaps := F_gaps.binds (ps := P_gaps) fun _ _ _ _ _ _ us hl => match us, hl with | [_, _], _ => rfl
  have d_c_gaps := RW.c_gaps (P := l.prog) (w := w) (base := base) T d_c_owners F_gaps (PySem.W.mg_of X G a_gaps) b_gaps
  have F_barring := fun_mk (st := s_barring) l_barring c_barring k_barring
  have b_barring := F_barring.binds (ps := P_barring) fun _ _ _ _ _ _ us hl => match us, hl with | [_, _], _ => rfl
  have d_c_barring := RW.c_barring (P := l.prog) (w := w) (base := base) T d_c_gaps F_barring (PySem.W.mg_of X G a_barring) b_barring
  have mg_Priced := PySem.W.mg_of X G aC_Priced
  have F_Priced_init := fun_mk (st := s_Priced_init) l_Priced_init c_Priced_init k_Priced_init
  have b_Priced_init := F_Priced_init.binds (ps := P_Priced_init) fun _ _ _ _ _ _ us hl => match us, hl with | [_, _], _ => rfl
  have dcl_Priced := (⟨pg_Priced, hd_Priced, po_Priced, sa_Priced⟩ : Cls K a_Priced)
  have dmk_Priced := (⟨mi_Priced, aM_Priced_init, iM_Priced_init, kp_Priced⟩ : Mk K a_Priced f_Priced_init)
  have d_m_Priced_init := RW.m_Priced_init (P := l.prog) (w := w) (base := base) T dcl_Priced na_Priced_prices dmk_Priced mg_Priced F_Priced_init b_Priced_init
  have mg_Ring := PySem.W.mg_of X G aC_Ring
  have F_Ring_init := fun_mk (st := s_Ring_init) l_Ring_init c_Ring_init k_Ring_init
  have b_Ring_init := F_Ring_init.binds (ps := P_Ring_init) fun _ _ _ _ _ _ us hl => match us, hl with | [_, _], _ => rfl
  have dcl_Ring := (⟨pg_Ring, hd_Ring, po_Ring, sa_Ring⟩ : Cls K a_Ring)
  have dmk_Ring := (⟨mi_Ring, aM_Ring_init, iM_Ring_init, kp_Ring⟩ : Mk K a_Ring f_Ring_init)
  have d_m_Ring_init := RW.m_Ring_init (P := l.prog) (w := w) (base := base) T dcl_Ring na_Ring_people dmk_Ring mg_Ring F_Ring_init b_Ring_init
  have mg_Settled := PySem.W.mg_of X G aC_Settled
  have F_Settled_init := fun_mk (st := s_Settled_init) l_Settled_init c_Settled_init k_Settled_init
  have b_Settled_init := F_Settled_init.binds (ps := P_Settled_init) fun _ _ _ _ _ _ us hl => match us, hl with | [_, _, _], _ => rfl
  have dcl_Settled := (⟨pg_Settled, hd_Settled, po_Settled, sa_Settled⟩ : Cls K a_Settled)
  have dmk_Settled := (⟨mi_Settled, aM_Settled_init, iM_Settled_init, kp_Settled⟩ : Mk K a_Settled f_Settled_init)
  have d_m_Settled_init := RW.m_Settled_init (P := l.prog) (w := w) (base := base) T dcl_Settled na_Settled_rooms na_Settled_prices dmk_Settled mg_Settled F_Settled_init b_Settled_init
  have F_bounds := fun_mk (st := s_bounds) l_bounds c_bounds k_bounds
  have b_bounds := F_bounds.binds (ps := P_bounds) fun _ _ _ _ _ _ us hl => match us, hl with | [_, _], _ => rfl
  have d_c_bounds := RW.c_bounds (P := l.prog) (w := w) (base := base) T d_c_gaps F_bounds (PySem.W.mg_of X G a_bounds) b_bounds
  have F_told_of := fun_mk (st := s_told_of) l_told_of c_told_of k_told_of
  have b_told_of := F_told_of.binds (ps := P_told_of) fun _ _ _ _ _ _ us hl => match us, hl with | [_, _, _], _ => rfl
  have d_c_told_of := RW.c_told_of (P := l.prog) (w := w) (base := base) T d_c_barring d_c_owners d_c_bounds d_m_Priced_init d_m_Ring_init F_told_of (PySem.W.mg_of X G a_told_of) b_told_of
  have F_put_in := fun_mk (st := s_put_in) l_put_in c_put_in k_put_in
  have b_put_in := F_put_in.binds (ps := P_put_in) fun _ _ _ _ _ _ us hl => match us, hl with | [_, _, _, _, _], _ => rfl
  have d_c_put_in := RW.c_put_in (P := l.prog) (w := w) (base := base) T F_put_in (PySem.W.mg_of X G a_put_in) b_put_in
  have F_best := fun_mk (st := s_best) l_best c_best k_best
  have b_best := F_best.binds (ps := P_best) fun _ _ _ _ _ _ us hl => match us, hl with | [_], _ => rfl
  have d_c_best := RW.c_best (P := l.prog) (w := w) (base := base) T d_c_put_in F_best (PySem.W.mg_of X G a_best) b_best
  have F_settled := fun_mk (st := s_settled) l_settled c_settled k_settled
  have b_settled := F_settled.binds (ps := P_settled) fun _ _ _ _ _ _ us hl => match us, hl with | [_, _], _ => rfl
  have d_c_settled := RW.c_settled (P := l.prog) (w := w) (base := base) T d_c_asked_table d_c_asked_rent d_c_best d_c_told_of d_m_Settled_init dcl_Priced na_Priced_prices F_settled (PySem.W.mg_of X G a_settled) b_settled
  have F_told := fun_mk (st := s_told) l_told c_told k_told
  have b_told := F_told.binds (ps := P_told) fun _ _ _ _ _ _ us hl => match us, hl with | [_, _, _], _ => rfl
  have d_c_told := RW.c_told (P := l.prog) (w := w) (base := base) d_c_asked_table d_c_asked_rent d_c_asked_giving d_c_told_of F_told (PySem.W.mg_of X G a_told) b_told
  have F_Priced_shows := fun_mk (st := s_Priced_shows) l_Priced_shows c_Priced_shows k_Priced_shows
  have b_Priced_shows := F_Priced_shows.binds (ps := P_Priced_shows) fun _ _ _ _ _ _ us hl => match us, hl with | [_, _, _, _], _ => rfl
  have dme_Priced_shows := (⟨aM_Priced_shows, iM_Priced_shows, k_Priced_shows⟩ : Meth K a_Priced "shows" f_Priced_shows)
  have d_m_Priced_shows := RW.m_Priced_shows (P := l.prog) (w := w) (base := base) T dcl_Priced na_Priced_prices dme_Priced_shows d_c_are_fit F_Priced_shows b_Priced_shows
  have F_Ring_shows := fun_mk (st := s_Ring_shows) l_Ring_shows c_Ring_shows k_Ring_shows
  have b_Ring_shows := F_Ring_shows.binds (ps := P_Ring_shows) fun _ _ _ _ _ _ us hl => match us, hl with | [_, _, _, _], _ => rfl
  have dme_Ring_shows := (⟨aM_Ring_shows, iM_Ring_shows, k_Ring_shows⟩ : Meth K a_Ring "shows" f_Ring_shows)
  have d_m_Ring_shows := RW.m_Ring_shows (P := l.prog) (w := w) (base := base) T dcl_Ring na_Ring_people dme_Ring_shows F_Ring_shows b_Ring_shows
  have F__law_number := fun_mk (st := s__law_number) l__law_number c__law_number k__law_number
  have b__law_number := F__law_number.binds (ps := P__law_number) fun _ _ _ _ _ _ us hl => match us, hl with | [_, _, _], _ => rfl
  have d_c__law_number := RW.c__law_number (P := l.prog) (w := w) (base := base) T F__law_number (PySem.W.mg_of X G a__law_number) b__law_number
  have F__law_size := fun_mk (st := s__law_size) l__law_size c__law_size k__law_size
  have b__law_size := F__law_size.binds (ps := P__law_size) fun _ _ _ _ _ _ us hl => match us, hl with | [_], _ => rfl
  have d_c__law_size := RW.c__law_size (P := l.prog) (w := w) (base := base) T F__law_size (PySem.W.mg_of X G a__law_size) b__law_size
  have F__law_table := fun_mk (st := s__law_table) l__law_table c__law_table k__law_table
  have b__law_table := F__law_table.binds (ps := P__law_table) fun _ _ _ _ _ _ us hl => match us, hl with | [_, _], _ => rfl
  have d_c__law_table := RW.c__law_table (P := l.prog) (w := w) (base := base) T d_c__law_number F__law_table (PySem.W.mg_of X G a__law_table) b__law_table
  have F__law_giving := fun_mk (st := s__law_giving) l__law_giving c__law_giving k__law_giving
  have b__law_giving := F__law_giving.binds (ps := P__law_giving) fun _ _ _ _ _ _ us hl => match us, hl with | [_, _, _], _ => rfl
  have d_c__law_giving := RW.c__law_giving (P := l.prog) (w := w) (base := base) T d_c__law_number F__law_giving (PySem.W.mg_of X G a__law_giving) b__law_giving
  have F__law_rent := fun_mk (st := s__law_rent) l__law_rent c__law_rent k__law_rent
  have b__law_rent := F__law_rent.binds (ps := P__law_rent) fun _ _ _ _ _ _ us hl => match us, hl with | [_, _], _ => rfl
  have d_c__law_rent := RW.c__law_rent (P := l.prog) (w := w) (base := base) T d_c__law_number F__law_rent (PySem.W.mg_of X G a__law_rent) b__law_rent
  have F__law_fit := fun_mk (st := s__law_fit) l__law_fit c__law_fit k__law_fit
  have b__law_fit := F__law_fit.binds (ps := P__law_fit) fun _ _ _ _ _ _ us hl => match us, hl with | [_, _, _, _], _ => rfl
  have d_c__law_fit := RW.c__law_fit (P := l.prog) (w := w) (base := base) T F__law_fit (PySem.W.mg_of X G a__law_fit) b__law_fit
  have F__law_numbers := fun_mk (st := s__law_numbers) l__law_numbers c__law_numbers k__law_numbers
  have b__law_numbers := F__law_numbers.binds (ps := P__law_numbers) fun _ _ _ _ _ _ us hl => match us, hl with | [_, _], _ => rfl
  have d_c__law_numbers := RW.c__law_numbers (P := l.prog) (w := w) (base := base) T F__law_numbers (PySem.W.mg_of X G a__law_numbers) b__law_numbers
  have F__law_more := fun_mk (st := s__law_more) l__law_more c__law_more k__law_more
  have b__law_more := F__law_more.binds (ps := P__law_more) fun _ _ _ _ _ _ us hl => match us, hl with | [_, _, _], _ => rfl
  have d_c__law_more := RW.c__law_more (P := l.prog) (w := w) (base := base) T F__law_more (PySem.W.mg_of X G a__law_more) b__law_more
  have F__law_due := fun_mk (st := s__law_due) l__law_due c__law_due k__law_due
  have b__law_due := F__law_due.binds (ps := P__law_due) fun _ _ _ _ _ _ us hl => match us, hl with | [_, _, _, _], _ => rfl
  have dkl_Priced := (⟨dcl_Priced, ha_Priced, hn_obj, ht_obj, hm_Priced⟩ : Kl K a_Priced)
  have dkl_Ring := (⟨dcl_Ring, ha_Ring, hn_obj, ht_obj, hm_Ring⟩ : Kl K a_Ring)
  have dg_Priced := (⟨_, mg_Priced, rfl⟩ : GV mg "Priced" (.ref a_Priced))
  have d_c__law_due := RW.c__law_due (P := l.prog) (w := w) (base := base) T dkl_Priced na_Priced_prices dkl_Ring na_Ring_people dg_Priced is_Priced_Priced isnt_Ring_Priced d_c__law_fit d_c__law_more F__law_due (PySem.W.mg_of X G a__law_due) b__law_due
  have F__law_right := fun_mk (st := s__law_right) l__law_right c__law_right k__law_right
  have b__law_right := F__law_right.binds (ps := P__law_right) fun _ _ _ _ _ _ us hl => match us, hl with | [_, _, _, _], _ => rfl
  have dg_Ring := (⟨_, mg_Ring, rfl⟩ : GV mg "Ring" (.ref a_Ring))
  have dg_Settled := (⟨_, mg_Settled, rfl⟩ : GV mg "Settled" (.ref a_Settled))
  have mg_Answer := PySem.W.mg_of X G aC_Answer
  have dg_Answer := (⟨_, mg_Answer, rfl⟩ : GV mg "Answer" (.ref a_Answer))
  have d_c__law_right := RW.c__law_right (P := l.prog) (w := w) (base := base) T dkl_Priced na_Priced_prices dkl_Ring na_Ring_people dg_Priced dg_Ring dg_Settled dg_Answer is_Priced_Priced isnt_Ring_Priced is_Ring_Ring isnt_Priced_Ring isnt_Priced_Settled isnt_Ring_Settled is_Priced_Answer is_Ring_Answer d_c_told d_c_fit d_c__law_numbers d_c__law_due d_m_Priced_shows d_m_Ring_shows F__law_right (PySem.W.mg_of X G a__law_right) b__law_right
  have F_law := fun_mk (st := s_law) l_law c_law k_law
  exact RW.ok_law (P := l.prog) (w := w) (base := base) T dcl_Settled na_Settled_rooms dkl_Priced na_Priced_prices dkl_Ring na_Ring_people dg_Priced is_Priced_Priced isnt_Ring_Priced d_c__law_size d_c__law_table d_c__law_rent d_c__law_giving d_c_settled d_c_told d_c_worth d_c__law_right F_law
theorem script_mem (ns : List Int) (i : Nat) (h : i < ns.length) : ns.getD i 0 ∈ ns := by
  rw [List.getD_eq_getElem?_getD, List.getElem?_eq_getElem h]
  exact List.getElem_mem h
end RW
open PySem PySem.W PyProof.Rows in
set_option maxRecDepth 100000 in
set_option maxHeartbeats 0 in
theorem PySem.Challenge.cw_roomprices_k01_whole_told_holds : PySem.Challenge.rw_roomprices_k01_whole_told.Holds := by
  w_on; o_law; k_head; (case hw => w_witness2)
  k_fill
  refine L2.walk_ofB (l := PySem.Challenge.rw_roomprices_k01_whole_told) (n := 63) (k := 7) (x := "_law_script") (CX := fun _ => L2.CX0) (sp := fun w => RW.spLaw _) rfl (by decide) rfl ⟨rfl, by decide, by decide⟩ (fun w h Y => PySem.W.kIn_of Y) ?F (fun w H a ns hl hb _ hS => ⟨a, ns.length, fun i => ns.getD i 0, rfl, ⟨by rw [← RP.ints_vl]; exact hS, hl, fun i hi => RP.bd_of_bits (hb _ (RW.script_mem ns i hi))⟩, fun _ _ => rfl⟩) fun _ _ _ _ _ z => z
  case F =>
    intro w mg fa h KX G hmg
    refine' RW.all_mk KX G hmg ?z_len ?z_range ?z_list ?z_sum ?z_zip ?z_enumerate ?z_min ?z_max ?z_sorted ?z_isinstance ?z_all ?z_any ?z_int ?z_bool ?z_str ?z_tuple ?z_abs ?z_set ?z_ValueError ?a_is_number ?l_is_number ?c_is_number ?k_is_number ?a_are_numbers ?l_are_numbers ?c_are_numbers ?k_are_numbers ?a_asked_table ?l_asked_table ?c_asked_table ?k_asked_table ?aV_MOST ?aC_BadTable ?x1_BadTable ?x2_BadTable ?x3_BadTable ?x4_BadTable ?a_asked_rent ?l_asked_rent ?c_asked_rent ?k_asked_rent ?aC_BadRent ?x1_BadRent ?x2_BadRent ?x3_BadRent ?x4_BadRent ?a_asked_giving ?l_asked_giving ?c_asked_giving ?k_asked_giving ?aC_BadGiving ?x1_BadGiving ?x2_BadGiving ?x3_BadGiving ?x4_BadGiving ?a_asked_prices ?l_asked_prices ?c_asked_prices ?k_asked_prices ?aC_BadPrices ?x1_BadPrices ?x2_BadPrices ?x3_BadPrices ?x4_BadPrices ?a_are_fit ?l_are_fit ?c_are_fit ?k_are_fit ?a_fit ?l_fit ?c_fit ?k_fit ?a_worth ?l_worth ?c_worth ?k_worth ?a_owners ?l_owners ?c_owners ?k_owners ?a_gaps ?l_gaps ?c_gaps ?k_gaps ?a_barring ?l_barring ?c_barring ?k_barring ?aC_Priced ?aM_Priced_init ?iM_Priced_init ?l_Priced_init ?c_Priced_init ?k_Priced_init ?pg_Priced ?hd_Priced ?po_Priced ?sa_Priced ?na_Priced_prices ?mi_Priced ?kp_Priced ?aC_Ring ?aM_Ring_init ?iM_Ring_init ?l_Ring_init ?c_Ring_init ?k_Ring_init ?pg_Ring ?hd_Ring ?po_Ring ?sa_Ring ?na_Ring_people ?mi_Ring ?kp_Ring ?aC_Settled ?aM_Settled_init ?iM_Settled_init ?l_Settled_init ?c_Settled_init ?k_Settled_init ?pg_Settled ?hd_Settled ?po_Settled ?sa_Settled ?na_Settled_rooms ?na_Settled_prices ?mi_Settled ?kp_Settled ?a_bounds ?l_bounds ?c_bounds ?k_bounds ?a_told_of ?l_told_of ?c_told_of ?k_told_of ?a_put_in ?l_put_in ?c_put_in ?k_put_in ?a_best ?l_best ?c_best ?k_best ?a_settled ?l_settled ?c_settled ?k_settled ?a_told ?l_told ?c_told ?k_told ?aM_Priced_shows ?iM_Priced_shows ?l_Priced_shows ?c_Priced_shows ?k_Priced_shows ?aM_Ring_shows ?iM_Ring_shows ?l_Ring_shows ?c_Ring_shows ?k_Ring_shows ?a__law_number ?l__law_number ?c__law_number ?k__law_number ?a__law_size ?l__law_size ?c__law_size ?k__law_size ?a__law_table ?l__law_table ?c__law_table ?k__law_table ?a__law_giving ?l__law_giving ?c__law_giving ?k__law_giving ?a__law_rent ?l__law_rent ?c__law_rent ?k__law_rent ?a__law_fit ?l__law_fit ?c__law_fit ?k__law_fit ?a__law_numbers ?l__law_numbers ?c__law_numbers ?k__law_numbers ?a__law_more ?l__law_more ?c__law_more ?k__law_more ?a__law_due ?l__law_due ?c__law_due ?k__law_due ?ha_Priced ?hn_obj ?ht_obj ?hm_Priced ?ha_Ring ?hm_Ring ?is_Priced_Priced ?isnt_Ring_Priced ?a__law_right ?l__law_right ?c__law_right ?k__law_right ?aC_Answer ?is_Ring_Ring ?isnt_Priced_Ring ?isnt_Priced_Settled ?isnt_Ring_Settled ?is_Priced_Answer ?is_Ring_Answer ?a_law ?l_law ?c_law ?k_law
    (case z_len => k_is)
    (case z_range => k_is)
    (case z_list => k_is)
    (case z_sum => k_is)
    (case z_zip => k_is)
    (case z_enumerate => k_is)
    (case z_min => k_is)
    (case z_max => k_is)
    (case z_sorted => k_is)
    (case z_isinstance => k_is)
    (case z_all => k_is)
    (case z_any => k_is)
    (case z_int => k_is)
    (case z_bool => k_is)
    (case z_str => k_is)
    (case z_tuple => k_is)
    (case z_abs => k_is)
    (case z_set => k_is)
    (case z_ValueError => k_is)
    (case a_is_number => k_is)
    (case l_is_number => k_is)
    (case c_is_number => k_is)
    (case k_is_number => k_is)
    (case a_are_numbers => k_is)
    (case l_are_numbers => k_is)
    (case c_are_numbers => k_is)
    (case k_are_numbers => k_is)
    (case a_asked_table => k_is)
    (case l_asked_table => k_is)
    (case c_asked_table => k_is)
    (case k_asked_table => k_is)
    (case aV_MOST => k_is)
    (case aC_BadTable => k_is)
    (case x1_BadTable => k_exc)
    (case x2_BadTable => k_is)
    (case x3_BadTable => k_is)
    (case x4_BadTable => k_is)
    (case a_asked_rent => k_is)
    (case l_asked_rent => k_is)
    (case c_asked_rent => k_is)
    (case k_asked_rent => k_is)
    (case aC_BadRent => k_is)
    (case x1_BadRent => k_exc)
    (case x2_BadRent => k_is)
    (case x3_BadRent => k_is)
    (case x4_BadRent => k_is)
    (case a_asked_giving => k_is)
    (case l_asked_giving => k_is)
    (case c_asked_giving => k_is)
    (case k_asked_giving => k_is)
    (case aC_BadGiving => k_is)
    (case x1_BadGiving => k_exc)
    (case x2_BadGiving => k_is)
    (case x3_BadGiving => k_is)
    (case x4_BadGiving => k_is)
    (case a_asked_prices => k_is)
    (case l_asked_prices => k_is)
    (case c_asked_prices => k_is)
    (case k_asked_prices => k_is)
    (case aC_BadPrices => k_is)
    (case x1_BadPrices => k_exc)
    (case x2_BadPrices => k_is)
    (case x3_BadPrices => k_is)
    (case x4_BadPrices => k_is)
    (case a_are_fit => k_is)
    (case l_are_fit => k_is)
    (case c_are_fit => k_is)
    (case k_are_fit => k_is)
    (case a_fit => k_is)
    (case l_fit => k_is)
    (case c_fit => k_is)
    (case k_fit => k_is)
    (case a_worth => k_is)
    (case l_worth => k_is)
    (case c_worth => k_is)
    (case k_worth => k_is)
    (case a_owners => k_is)
    (case l_owners => k_is)
    (case c_owners => k_is)
    (case k_owners => k_is)
    (case a_gaps => k_is)
    (case l_gaps => k_is)
    (case c_gaps => k_is)
    (case k_gaps => k_is)
    (case a_barring => k_is)
    (case l_barring => k_is)
    (case c_barring => k_is)
    (case k_barring => k_is)
    (case aC_Priced => k_is)
    (case aM_Priced_init => k_is)
    (case iM_Priced_init => k_is)
    (case l_Priced_init => k_is)
    (case c_Priced_init => k_is)
    (case k_Priced_init => k_is)
    (case pg_Priced => k_is)
    (case hd_Priced => k_is)
    (case po_Priced => k_is)
    (case sa_Priced => k_is)
    (case na_Priced_prices => k_is)
    (case mi_Priced => k_is)
    (case kp_Priced => k_is)
    (case aC_Ring => k_is)
    (case aM_Ring_init => k_is)
    (case iM_Ring_init => k_is)
    (case l_Ring_init => k_is)
    (case c_Ring_init => k_is)
    (case k_Ring_init => k_is)
    (case pg_Ring => k_is)
    (case hd_Ring => k_is)
    (case po_Ring => k_is)
    (case sa_Ring => k_is)
    (case na_Ring_people => k_is)
    (case mi_Ring => k_is)
    (case kp_Ring => k_is)
    (case aC_Settled => k_is)
    (case aM_Settled_init => k_is)
    (case iM_Settled_init => k_is)
    (case l_Settled_init => k_is)
    (case c_Settled_init => k_is)
    (case k_Settled_init => k_is)
    (case pg_Settled => k_is)
    (case hd_Settled => k_is)
    (case po_Settled => k_is)
    (case sa_Settled => k_is)
    (case na_Settled_rooms => k_is)
    (case na_Settled_prices => k_is)
    (case mi_Settled => k_is)
    (case kp_Settled => k_is)
    (case a_bounds => k_is)
    (case l_bounds => k_is)
    (case c_bounds => k_is)
    (case k_bounds => k_is)
    (case a_told_of => k_is)
    (case l_told_of => k_is)
    (case c_told_of => k_is)
    (case k_told_of => k_is)
    (case a_put_in => k_is)
    (case l_put_in => k_is)
    (case c_put_in => k_is)
    (case k_put_in => k_is)
    (case a_best => k_is)
    (case l_best => k_is)
    (case c_best => k_is)
    (case k_best => k_is)
    (case a_settled => k_is)
    (case l_settled => k_is)
    (case c_settled => k_is)
    (case k_settled => k_is)
    (case a_told => k_is)
    (case l_told => k_is)
    (case c_told => k_is)
    (case k_told => k_is)
    (case aM_Priced_shows => k_is)
    (case iM_Priced_shows => k_is)
    (case l_Priced_shows => k_is)
    (case c_Priced_shows => k_is)
    (case k_Priced_shows => k_is)
    (case aM_Ring_shows => k_is)
    (case iM_Ring_shows => k_is)
    (case l_Ring_shows => k_is)
    (case c_Ring_shows => k_is)
    (case k_Ring_shows => k_is)
    (case a__law_number => k_is)
    (case l__law_number => k_is)
    (case c__law_number => k_is)
    (case k__law_number => k_is)
    (case a__law_size => k_is)
    (case l__law_size => k_is)
    (case c__law_size => k_is)
    (case k__law_size => k_is)
    (case a__law_table => k_is)
    (case l__law_table => k_is)
    (case c__law_table => k_is)
    (case k__law_table => k_is)
    (case a__law_giving => k_is)
    (case l__law_giving => k_is)
    (case c__law_giving => k_is)
    (case k__law_giving => k_is)
    (case a__law_rent => k_is)
    (case l__law_rent => k_is)
    (case c__law_rent => k_is)
    (case k__law_rent => k_is)
    (case a__law_fit => k_is)
    (case l__law_fit => k_is)
    (case c__law_fit => k_is)
    (case k__law_fit => k_is)
    (case a__law_numbers => k_is)
    (case l__law_numbers => k_is)
    (case c__law_numbers => k_is)
    (case k__law_numbers => k_is)
    (case a__law_more => k_is)
    (case l__law_more => k_is)
    (case c__law_more => k_is)
    (case k__law_more => k_is)
    (case a__law_due => k_is)
    (case l__law_due => k_is)
    (case c__law_due => k_is)
    (case k__law_due => k_is)
    (case ha_Priced => k_is)
    (case hn_obj => k_is)
    (case ht_obj => k_is)
    (case hm_Priced => k_is)
    (case ha_Ring => k_is)
    (case hm_Ring => k_is)
    (case is_Priced_Priced => kit_is)
    (case isnt_Ring_Priced => kit_is)
    (case a__law_right => k_is)
    (case l__law_right => k_is)
    (case c__law_right => k_is)
    (case k__law_right => k_is)
    (case aC_Answer => k_is)
    (case is_Ring_Ring => kit_is)
    (case isnt_Priced_Ring => kit_is)
    (case isnt_Priced_Settled => kit_is)
    (case isnt_Ring_Settled => kit_is)
    (case is_Priced_Answer => kit_is)
    (case is_Ring_Answer => kit_is)
    (case a_law => k_is)
    (case l_law => k_is)
    (case c_law => k_is)
    (case k_law => k_is)
