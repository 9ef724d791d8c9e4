import PyProof.Rows.All
import Wide.All
import OpenK.AllK
import Wide.FinOn
import HandS.ForMost
import HandS.Wide
import HandS.Star
import HandS.IsInst
import HandS.Property
import HandS.Codes
import HandS.DictComp
import HandS.Deep
import HandS.TupAny
import HandS.TupMul
import HandS.Conv
import HandS.Walk
import HandS.Style
import KE.KStateDown
import HandS.Base
import HandS.Call
import HandS.Ends
import HandS.Words
import HandS.Head0
import HandS.Head1
import HandS.Head2
import HandS.HeadEnd
import HandS.HeadHook1
import HandS.HeadHook2
import PyProof.CallFns
import HandS.Zip
import KE.GoesEnum
import HandS.Text
import PySem.Challenge.RW_cornersure_k29_whole_corner_mixes_and_wh
set_option Elab.async false
/-! Sums over an initial stretch of the naturals, spans of rows, tableaux. Plain Lean, no program in sight. -/
namespace Mx
abbrev Row := Nat → Rat
def sumTo : Nat → (Nat → Rat) → Rat
  | 0, _ => 0
  | n + 1, f => sumTo n f + f n
theorem sumTo_congr {f g : Nat → Rat} : ∀ {n : Nat}, (∀ i, i < n → f i = g i) → sumTo n f = sumTo n g
  | 0, _ => rfl
  | n + 1, h => by
    show sumTo n f + f n = sumTo n g + g n
    rw [sumTo_congr (n := n) (fun i hi => h i (by omega)), h n (by omega)]
theorem sumTo_zero {f : Nat → Rat} : ∀ {n : Nat}, (∀ i, i < n → f i = 0) → sumTo n f = 0
  | 0, _ => rfl
  | n + 1, h => by
    show sumTo n f + f n = 0
    rw [sumTo_zero (n := n) (fun i hi => h i (by omega)), h n (by omega)]
    grind
theorem sumTo_add (f g : Nat → Rat) : ∀ n : Nat, sumTo n (fun i => f i + g i) = sumTo n f + sumTo n g
  | 0 => by show (0 : Rat) = 0 + 0; grind
  | n + 1 => by
    show sumTo n (fun i => f i + g i) + (f n + g n) = (sumTo n f + f n) + (sumTo n g + g n)
    rw [sumTo_add f g n]
    grind
theorem sumTo_mul (a : Rat) (f : Nat → Rat) : ∀ n : Nat, sumTo n (fun i => a * f i) = a * sumTo n f
  | 0 => by show (0 : Rat) = a * 0; grind
  | n + 1 => by
    show sumTo n (fun i => a * f i) + a * f n = a * (sumTo n f + f n)
    rw [sumTo_mul a f n]
    grind
theorem sumTo_mulr (a : Rat) (f : Nat → Rat) (n : Nat) : sumTo n (fun i => f i * a) = sumTo n f * a := by
  have h := sumTo_mul a f n
  have e : sumTo n (fun i => f i * a) = sumTo n (fun i => a * f i) := sumTo_congr fun i _ => by grind
  grind
theorem sumTo_comm (f : Nat → Nat → Rat) (m : Nat) : ∀ n : Nat, sumTo n (fun i => sumTo m (fun j => f i j)) = sumTo m (fun j => sumTo n (fun i => f i j))
  | 0 => (sumTo_zero fun _ _ => rfl).symm
  | n + 1 => by
    show sumTo n (fun i => sumTo m (fun j => f i j)) + sumTo m (fun j => f n j) = sumTo m (fun j => sumTo n (fun i => f i j) + f n j)
    rw [sumTo_comm f m n, sumTo_add]
theorem sumTo_one {f : Nat → Rat} {k : Nat} : ∀ {n : Nat}, k < n → (∀ i, i < n → i ≠ k → f i = 0) → sumTo n f = f k
  | 0, h, _ => by omega
  | n + 1, h, z => by
    show sumTo n f + f n = f k
    by_cases e : k = n
    · subst e
      rw [sumTo_zero fun i hi => z i (by omega) (by omega)]
      grind
    · rw [sumTo_one (n := n) (by omega) fun i hi => z i (by omega), z n (by omega) (fun q => e q.symm)]
      grind
/-- a coefficient that is 1 at one place, 0 at all others -/
theorem sumTo_delta {n k : Nat} (f : Nat → Rat) (h : k < n) : sumTo n (fun i => (if i = k then 1 else 0) * f i) = f k := by
  rw [sumTo_one (k := k) h]
  · rw [if_pos rfl]; grind
  · intro i _ hk
    rw [if_neg hk]; grind
theorem sumTo_delta' {n k : Nat} (f : Nat → Rat) (h : k < n) : sumTo n (fun i => (if k = i then 1 else 0) * f i) = f k := by
  rw [sumTo_one (k := k) h]
  · rw [if_pos rfl]; grind
  · intro i _ hk
    rw [if_neg (fun e => hk e.symm)]; grind
theorem sumTo_nonneg {f : Nat → Rat} : ∀ {n : Nat}, (∀ i, i < n → 0 ≤ f i) → 0 ≤ sumTo n f
  | 0, _ => by show (0 : Rat) ≤ 0; grind
  | n + 1, h => by
    show 0 ≤ sumTo n f + f n
    have h1 := sumTo_nonneg (n := n) fun i hi => h i (by omega)
    have h2 := h n (by omega)
    grind
theorem sumTo_nonpos {f : Nat → Rat} : ∀ {n : Nat}, (∀ i, i < n → f i ≤ 0) → sumTo n f ≤ 0
  | 0, _ => by show (0 : Rat) ≤ 0; grind
  | n + 1, h => by
    show sumTo n f + f n ≤ 0
    have h1 := sumTo_nonpos (n := n) fun i hi => h i (by omega)
    have h2 := h n (by omega)
    grind
/-- a sum above 0 has a part above 0 -/
theorem sumTo_pos {f : Nat → Rat} : ∀ {n : Nat}, 0 < sumTo n f → ∃ i, i < n ∧ 0 < f i
  | 0, h => absurd h (by show ¬ (0 : Rat) < 0; grind)
  | n + 1, h => by
    by_cases e : 0 < f n
    · exact ⟨n, by omega, e⟩
    · have h0 : 0 < sumTo n f + f n := h
      obtain ⟨i, hi, h2⟩ := sumTo_pos (n := n) (f := f) (by grind)
      exact ⟨i, by omega, h2⟩
/-- a sum of parts from 0 on that is 0 has no other part -/
theorem sumTo_eq_zero {f : Nat → Rat} : ∀ {n : Nat}, (∀ i, i < n → 0 ≤ f i) → sumTo n f = 0 → ∀ i, i < n → f i = 0
  | 0, _, _, i, h => by omega
  | n + 1, p, h, i, hi => by
    have h0 : sumTo n f + f n = 0 := h
    have h1 := sumTo_nonneg (n := n) (f := f) fun i hi => p i (by omega)
    have h2 := p n (by omega)
    by_cases e : i = n
    · subst e; grind
    · exact sumTo_eq_zero (n := n) (fun i hi => p i (by omega)) (by grind) i (by omega)

/-! ### spans -/
/-- r is made of the first m rows of A -/
def In (m : Nat) (A : Nat → Row) (r : Row) : Prop := ∃ c : Nat → Rat, ∀ j, r j = sumTo m (fun k => c k * A k j)
def Spn (m : Nat) (A B : Nat → Row) : Prop := ∀ i, i < m → In m A (B i)
theorem In.row {m : Nat} {A : Nat → Row} {i : Nat} (h : i < m) : In m A (A i) := ⟨fun k => if k = i then 1 else 0, fun j => (sumTo_delta (fun k => A k j) h).symm⟩
theorem In.add {m : Nat} {A : Nat → Row} {r s : Row} (a b : Rat) (h1 : In m A r) (h2 : In m A s) : In m A (fun j => a * r j + b * s j) := by
  obtain ⟨c, hc⟩ := h1
  obtain ⟨d, hd⟩ := h2
  refine ⟨fun k => a * c k + b * d k, fun j => ?_⟩
  show a * r j + b * s j = _
  rw [hc j, hd j, ← sumTo_mul, ← sumTo_mul, ← sumTo_add]
  exact sumTo_congr fun k _ => by grind
theorem In.zero {m : Nat} {A : Nat → Row} : In m A (fun _ => 0) := ⟨fun _ => 0, fun j => (sumTo_zero fun k _ => by grind).symm⟩
theorem In.sum {m : Nat} {A : Nat → Row} {R : Nat → Row} (c : Nat → Rat) : ∀ {n : Nat}, (∀ i, i < n → In m A (R i)) → In m A (fun j => sumTo n (fun i => c i * R i j))
  | 0, _ => In.zero
  | n + 1, h => by
    have h1 := In.add 1 (c n) (In.sum (R := R) c (n := n) fun i hi => h i (by omega)) (h n (by omega))
    obtain ⟨d, hd⟩ := h1
    refine ⟨d, fun j => ?_⟩
    rw [← hd j]
    show sumTo n (fun i => c i * R i j) + c n * R n j = _
    grind
theorem In.eq {m : Nat} {A : Nat → Row} {r s : Row} (h : In m A r) (e : ∀ j, s j = r j) : In m A s := by
  obtain ⟨c, hc⟩ := h
  exact ⟨c, fun j => (e j).trans (hc j)⟩
theorem In.trans {m : Nat} {A B : Nat → Row} {r : Row} (h : In m B r) (s : Spn m A B) : In m A r := by
  obtain ⟨c, hc⟩ := h
  exact (In.sum c s).eq hc
theorem Spn.trans {m : Nat} {A B C : Nat → Row} (h : Spn m A B) (h2 : Spn m B C) : Spn m A C := fun i hi => (h2 i hi).trans h
theorem Spn.refl {m : Nat} {A : Nat → Row} : Spn m A A := fun _ hi => In.row hi

/-! ### tableaux -/
/-- at the columns told by the rows stands a 1 in the row, 0 in the others -/
def Idn (m : Nat) (B : Nat → Row) (β : Nat → Nat) : Prop := ∀ i, i < m → ∀ l, l < m → B i (β l) = if i = l then 1 else 0
/-- what is made of such rows is told by its numbers at those columns -/
theorem In.told {m : Nat} {B : Nat → Row} {β : Nat → Nat} {r : Row} (h : In m B r) (d : Idn m B β) : ∀ j, r j = sumTo m (fun l => r (β l) * B l j) := by
  obtain ⟨c, hc⟩ := h
  have e : ∀ l, l < m → r (β l) = c l := fun l hl => by
    rw [hc (β l), sumTo_one (k := l) hl]
    · rw [d l hl l hl, if_pos rfl]; grind
    · intro i hi hk
      rw [d i hi l hl, if_neg hk]; grind
  intro j
  rw [hc j]
  exact sumTo_congr fun l hl => by rw [e l hl]
theorem Idn.inj {m : Nat} {B : Nat → Row} {β : Nat → Nat} (d : Idn m B β) {i l : Nat} (hi : i < m) (hl : l < m) (e : β i = β l) : i = l := by
  have h1 := d i hi i hi
  have h2 := d i hi l hl
  rw [← e, h1, if_pos rfl] at h2
  by_cases q : i = l
  · exact q
  · rw [if_neg q] at h2
    exact absurd h2 (by grind)
structure Tab (m : Nat) (M B : Nat → Row) (β : Nat → Nat) : Prop where
  to : Spn m M B
  fro : Spn m B M
  idn : Idn m B β
theorem Tab.uniq {m : Nat} {M B B' : Nat → Row} {β : Nat → Nat} (t : Tab m M B β) (t' : Tab m M B' β) {i : Nat} (hi : i < m) (j : Nat) : B' i j = B i j := by
  have h := ((t'.to i hi).trans t.fro).told t.idn j
  rw [h]
  have e : sumTo m (fun l => B' i (β l) * B l j) = sumTo m (fun l => (if i = l then 1 else 0) * B l j) := sumTo_congr fun l hl => by rw [t'.idn i hi l hl]
  rw [e]
  exact sumTo_delta' (fun l => B l j) hi
/-- another column is told by row r -/
def piv (B : Nat → Row) (r s : Nat) : Nat → Row := fun i j => if i = r then B r j / B r s else B i j - B r j / B r s * B i s
def pivB (β : Nat → Nat) (r s : Nat) : Nat → Nat := fun i => if i = r then s else β i
theorem Tab.piv {m : Nat} {M B : Nat → Row} {β : Nat → Nat} {r s : Nat} (t : Tab m M B β) (hr : r < m) (h : B r s ≠ 0) : Tab m M (piv B r s) (pivB β r s) := by
  have a1 : Spn m B (Mx.piv B r s) := fun i hi => by
    by_cases e : i = r
    · subst e
      refine (In.add (1 / B i s) 0 (In.row hi) (In.row hi)).eq fun j => ?_
      show (if i = i then B i j / B i s else _) = _
      rw [if_pos rfl]
      grind
    · refine (In.add 1 (- (B i s / B r s)) (In.row hi) (In.row hr)).eq fun j => ?_
      show (if i = r then _ else B i j - B r j / B r s * B i s) = _
      rw [if_neg e]
      grind
  have er : ∀ j, Mx.piv B r s r j = B r j / B r s := fun j => by
    show (if r = r then _ else _) = _
    rw [if_pos rfl]
  have ei : ∀ i, i ≠ r → ∀ j, Mx.piv B r s i j = B i j - B r j / B r s * B i s := fun i e j => by
    show (if i = r then _ else _) = _
    rw [if_neg e]
  have a2 : Spn m (Mx.piv B r s) B := fun i hi => by
    by_cases e : i = r
    · subst e
      refine (In.add (B i s) 0 (In.row hi) (In.row hi)).eq fun j => ?_
      rw [er]
      grind
    · refine (In.add 1 (B i s) (In.row hi) (In.row hr)).eq fun j => ?_
      rw [er, ei i e]
      grind
  refine ⟨t.to.trans a1, a2.trans t.fro, fun i hi l hl => ?_⟩
  have d := t.idn
  by_cases q : l = r
  · subst q
    have eb : pivB β l s l = s := by
      show (if l = l then s else β l) = s
      rw [if_pos rfl]
    rw [eb]
    by_cases e : i = l
    · subst e
      rw [er, if_pos rfl]
      grind
    · rw [ei i e, if_neg e]
      grind
  · have eb : pivB β r s l = β l := by
      show (if l = r then s else β l) = β l
      rw [if_neg q]
    rw [eb]
    have d2 := d r hr l hl
    rw [if_neg (fun z => q z.symm)] at d2
    by_cases e : i = r
    · subst e
      rw [er, d2, if_neg (fun z => q z.symm)]
      grind
    · rw [ei i e, d2, d i hi l hl]
      grind
/-! ### prices -/
def price (m : Nat) (cost : Row) (B : Nat → Row) (β : Nat → Nat) : Row := fun j => cost j - sumTo m (fun i => cost (β i) * B i j)
theorem price_basis {m : Nat} {cost : Row} {B : Nat → Row} {β : Nat → Nat} (d : Idn m B β) {l : Nat} (hl : l < m) : price m cost B β (β l) = 0 := by
  show cost (β l) - sumTo m (fun i => cost (β i) * B i (β l)) = 0
  rw [sumTo_one (k := l) hl]
  · rw [d l hl l hl, if_pos rfl]; grind
  · intro i hi hk
    rw [d i hi l hl, if_neg hk]; grind
/-- what prices are less costs is made of the rows -/
theorem price_in {m : Nat} {cost : Row} {M B : Nat → Row} {β : Nat → Nat} (t : Tab m M B β) : In m M (fun j => price m cost B β j - cost j) := by
  refine ((In.sum (A := M) (R := B) (fun i => -cost (β i)) t.to)).eq fun j => ?_
  show cost j - sumTo m (fun i => cost (β i) * B i j) - cost j = _
  have e : sumTo m (fun i => -cost (β i) * B i j) = -1 * sumTo m (fun i => cost (β i) * B i j) := by
    rw [← sumTo_mul]
    exact sumTo_congr fun i _ => by grind
  rw [e]
  grind
/-- the prices of one tableau by those of another one -/
theorem price_two {m : Nat} {cost : Row} {M B B' : Nat → Row} {β β' : Nat → Nat} (t : Tab m M B β) (t' : Tab m M B' β') (j : Nat) :
    price m cost B' β' j = price m cost B β j + sumTo m (fun l => price m cost B' β' (β l) * B l j) := by
  have h1 := In.add 1 (-1) (price_in (cost := cost) t') (price_in (cost := cost) t)
  have h2 := (h1.trans t.fro).told t.idn j
  have e : sumTo m (fun l => (1 * (price m cost B' β' (β l) - cost (β l)) + -1 * (price m cost B β (β l) - cost (β l))) * B l j) = sumTo m (fun l => price m cost B' β' (β l) * B l j) := sumTo_congr fun l hl => by
    rw [price_basis t.idn hl]
    grind
  have h3 : 1 * (price m cost B' β' j - cost j) + -1 * (price m cost B β j - cost j) = sumTo m (fun l => price m cost B' β' (β l) * B l j) := h2.trans e
  grind
end Mx
set_option Elab.async false
/-! No endless run of pivots by the rule of least columns. -/
namespace Mx
/-- below n, a map from n + 1 numbers meets a value twice -/
theorem pigeon : ∀ (n : Nat) (f : Nat → Nat), (∀ k, k ≤ n → f k < n) → ∃ i j, i < j ∧ j ≤ n ∧ f i = f j
  | 0, f, h => absurd (h 0 (by omega)) (by omega)
  | n + 1, f, h => by
    by_cases q : ∃ i, i ≤ n ∧ f i = f (n + 1)
    · obtain ⟨i, hi, e⟩ := q
      exact ⟨i, n + 1, by omega, by omega, e⟩
    · -- the value of the last is met by no other: it is closed up
      have ne : ∀ i, i ≤ n → f i ≠ f (n + 1) := fun i hi e => q ⟨i, hi, e⟩
      have hl := h (n + 1) (by omega)
      obtain ⟨i, j, h1, h2, h3⟩ := pigeon n (fun k => if f k < f (n + 1) then f k else f k - 1) (fun k hk => by
        have a := h k (by omega)
        have b := ne k hk
        show (if f k < f (n + 1) then f k else f k - 1) < n
        split <;> omega)
      refine ⟨i, j, h1, by omega, ?_⟩
      have a := ne i (by omega)
      have b := ne j (by omega)
      have h4 : (if f i < f (n + 1) then f i else f i - 1) = (if f j < f (n + 1) then f j else f j - 1) := h3
      split at h4 <;> split at h4 <;> omega
/-- the first m values as one number -/
def code (W : Nat) (β : Nat → Nat) : Nat → Nat
  | 0 => 0
  | m + 1 => code W β m * W + β m
theorem code_lt {W : Nat} {β : Nat → Nat} : ∀ {m : Nat}, (∀ i, i < m → β i < W) → code W β m < W ^ m
  | 0, _ => by show (0 : Nat) < 1; omega
  | m + 1, h => by
    have h1 := code_lt (m := m) fun i hi => h i (by omega)
    have h2 := h m (by omega)
    show code W β m * W + β m < W ^ m * W
    have h3 : (code W β m + 1) * W ≤ W ^ m * W := Nat.mul_le_mul_right W h1
    rw [Nat.add_mul,
      Nat.one_mul] at h3
    omega
theorem code_inj {W : Nat} {β β' : Nat → Nat} : ∀ {m : Nat}, (∀ i, i < m → β i < W) → (∀ i, i < m → β' i < W) → code W β m = code W β' m → ∀ i, i < m → β i = β' i
  | 0, _, _, _, i, hi => by omega
  | m + 1, h, h', e, i, hi => by
    have e' : code W β m * W + β m = code W β' m * W + β' m := e
    have a := h m (by omega)
    have b := h' m (by omega)
    have e1 : β m = β' m := by
      have q := congrArg (fun z => z % W) e'
      simp only [Nat.mul_add_mod_self_right, Nat.mod_eq_of_lt a, Nat.mod_eq_of_lt b] at q
      exact q
    have e2 : code W β m = code W β' m := by
      have hW : 0 < W := by omega
      have q : code W β m * W = code W β' m * W := by omega
      exact Nat.eq_of_mul_eq_mul_right hW q
    by_cases z : i = m
    · rw [z]; exact e1
    · exact code_inj (m := m) (fun i hi => h i (by omega)) (fun i hi => h' i (by omega)) e2 i (by omega)

/-- one turn: column s comes in, row r goes to it -/
structure Turn (m N : Nat) (cost : Row) (B : Nat → Row) (β : Nat → Nat) (r s : Nat) : Prop where
  s1 : 1 ≤ s
  sN : s < N
  neg : price m cost B β s < 0
  first : ∀ c, 1 ≤ c → c < s → 0 ≤ price m cost B β c
  rm : r < m
  pos : 0 < B r s
  best : ∀ i, i < m → 0 < B i s → B r 0 / B r s < B i 0 / B i s ∨ (B r 0 / B r s = B i 0 / B i s ∧ β r ≤ β i)
/-- the values stay from 0 on -/
theorem Turn.nonneg {m N : Nat} {cost : Row} {B : Nat → Row} {β : Nat → Nat} {r s : Nat} (t : Turn m N cost B β r s) (h : ∀ i, i < m → 0 ≤ B i 0) : ∀ i, i < m → 0 ≤ piv B r s i 0 := fun i hi => by
  have hr := h r t.rm
  have hp := t.pos
  have hq : 0 ≤ B r 0 / B r s := by
    rw [Rat.div_def]
    exact Rat.mul_nonneg hr (Rat.le_of_lt (Rat.inv_pos.mpr hp))
  by_cases e : i = r
  · subst e
    show 0 ≤ (if i = i then B i 0 / B i s else _)
    rw [if_pos rfl]
    exact hq
  · show 0 ≤ (if i = r then _ else B i 0 - B r 0 / B r s * B i s)
    rw [if_neg e]
    have hi0 := h i hi
    by_cases p : 0 < B i s
    · have hb : B r 0 / B r s ≤ B i 0 / B i s := by
        rcases t.best i hi p with z | ⟨z, _⟩
        · exact Rat.le_of_lt z
        · rw [z]; exact Rat.le_refl
      have h2 := Rat.mul_le_mul_of_nonneg_right hb (Rat.le_of_lt p)
      have h3 : B i 0 / B i s * B i s = B i 0 := by grind
      grind
    · have h2 : B r 0 / B r s * B i s ≤ 0 := by
        have h4 := Rat.mul_nonneg hq (show 0 ≤ - B i s by grind)
        grind
      grind
/-- the prices' first place behind a turn -/
theorem price_piv {m N : Nat} {cost : Row} {M B : Nat → Row} {β : Nat → Nat} {r s : Nat} (t : Tab m M B β) (u : Turn m N cost B β r s) :
    price m cost (piv B r s) (pivB β r s) 0 = price m cost B β 0 - price m cost B β s * (B r 0 / B r s) := by
  have hne : B r s ≠ 0 := fun e => by
    have := u.pos
    grind
  have t' := t.piv u.rm hne
  have h := price_two (cost := cost) t' t 0
  have e : sumTo m (fun l => price m cost B β (pivB β r s l) * piv B r s l 0) = price m cost B β s * (B r 0 / B r s) := by
    rw [sumTo_one (k := r) u.rm]
    · have e1 : pivB β r s r = s := by
        show (if r = r then s else β r) = s
        rw [if_pos rfl]
      have e2 : piv B r s r 0 = B r 0 / B r s := by
        show (if r = r then _ else _) = _
        rw [if_pos rfl]
      rw [e1, e2]
    · intro l hl hk
      have e1 : pivB β r s l = β l := by
        show (if l = r then s else β l) = β l
        rw [if_neg hk]
      rw [e1, price_basis t.idn hl]
      grind
  rw [e] at h
  grind

/-! ### an endless run -/
structure Run (m N W : Nat) (cost : Row) (M : Nat → Row) (B : Nat → Nat → Row) (β : Nat → Nat → Nat) (r s : Nat → Nat) : Prop where
  tab : ∀ k, Tab m M (B k) (β k)
  nn : ∀ k i, i < m → 0 ≤ B k i 0
  wide : ∀ k i, i < m → β k i < W
  turn : ∀ k, Turn m N cost (B k) (β k) (r k) (s k)
  stepB : ∀ k i, i < m → ∀ j, B (k + 1) i j = piv (B k) (r k) (s k) i j
  stepb : ∀ k i, i < m → β (k + 1) i = pivB (β k) (r k) (s k) i
section
variable {m N W : Nat} {cost : Row} {M : Nat → Row} {B : Nat → Nat → Row} {β : Nat → Nat → Nat} {r s : Nat → Nat}
theorem price_congr {B B' : Nat → Row} {β β' : Nat → Nat} (h : ∀ i, i < m → ∀ j, B i j = B' i j) (hb : ∀ i, i < m → β i = β' i) (j : Nat) : price m cost B β j = price m cost B' β' j := by
  show cost j - sumTo m (fun i => cost (β i) * B i j) = cost j - sumTo m (fun i => cost (β' i) * B' i j)
  rw [sumTo_congr fun i hi => by rw [h i hi j, hb i hi]]
theorem Run.theta (R : Run m N W cost M B β r s) (k : Nat) : 0 ≤ B k (r k) 0 / B k (r k) (s k) := by
  rw [Rat.div_def]
  exact Rat.mul_nonneg (R.nn k _ (R.turn k).rm) (Rat.le_of_lt (Rat.inv_pos.mpr (R.turn k).pos))
theorem Run.price (R : Run m N W cost M B β r s) (k : Nat) : price m cost (B (k + 1)) (β (k + 1)) 0 = price m cost (B k) (β k) 0 - price m cost (B k) (β k) (s k) * (B k (r k) 0 / B k (r k) (s k)) := by
  rw [← price_piv (R.tab k) (R.turn k)]
  exact price_congr (R.stepB k) (R.stepb k) 0
theorem Run.up (R : Run m N W cost M B β r s) (k : Nat) : Mx.price m cost (B k) (β k) 0 ≤ Mx.price m cost (B (k + 1)) (β (k + 1)) 0 := by
  rw [R.price k]
  have h1 := (R.turn k).neg
  have h2 := R.theta k
  have h3 := Rat.mul_nonneg (show 0 ≤ - Mx.price m cost (B k) (β k) (s k) by grind) h2
  grind
theorem Run.ups (R : Run m N W cost M B β r s) (k : Nat) : ∀ d, Mx.price m cost (B k) (β k) 0 ≤ Mx.price m cost (B (k + d)) (β (k + d)) 0
  | 0 => Rat.le_refl
  | d + 1 => Rat.le_trans (R.ups k d) (R.up (k + d))
/-- in a ring of turns nothing moves -/
theorem Run.still (R : Run m N W cost M B β r s) {i j : Nat} (e : ∀ l, l < m → β i l = β j l) {k : Nat} (h1 : i ≤ k) (h2 : k < j) : B k (r k) 0 = 0 := by
  have p0 : Mx.price m cost (B i) (β i) 0 = Mx.price m cost (B j) (β j) 0 := price_congr (fun l hl c => (R.tab i).uniq ((⟨(R.tab j).to, (R.tab j).fro, fun a ha b hb => by rw [e b hb]; exact (R.tab j).idn a ha b hb⟩ : Tab m M (B j) (β i))) hl c |>.symm) e 0
  have a := R.ups i (k - i)
  rw [show i + (k - i) = k by omega] at a
  have b := R.ups (k + 1) (j - (k + 1))
  rw [show k + 1 + (j - (k + 1)) = j by omega] at b
  have c := R.price k
  have hn := (R.turn k).neg
  have hp := (R.turn k).pos
  have z : Mx.price m cost (B k) (β k) (s k) * (B k (r k) 0 / B k (r k) (s k)) = 0 := by
    have h3 := Rat.mul_nonneg (show 0 ≤ - Mx.price m cost (B k) (β k) (s k) by grind) (R.theta k)
    grind
  rcases Rat.mul_eq_zero.mp z with q | q
  · exact absurd q (by grind)
  · grind
theorem Run.col0 (R : Run m N W cost M B β r s) {i j : Nat} (e : ∀ l, l < m → β i l = β j l) {k : Nat} (h1 : i ≤ k) (h2 : k < j) {l : Nat} (hl : l < m) : B (k + 1) l 0 = B k l 0 := by
  have z := R.still e h1 h2
  rw [R.stepB k l hl 0]
  by_cases q : l = r k
  · show (if l = r k then B k (r k) 0 / B k (r k) (s k) else _) = B k l 0
    rw [if_pos q, q, z]
    grind
  · show (if l = r k then _ else B k l 0 - B k (r k) 0 / B k (r k) (s k) * B k l (s k)) = B k l 0
    rw [if_neg q, z]
    grind
theorem Run.col0s (R : Run m N W cost M B β r s) {i j : Nat} (e : ∀ l, l < m → β i l = β j l) {l : Nat} (hl : l < m) {k : Nat} (h1 : i ≤ k) : ∀ d, k + d ≤ j → B (k + d) l 0 = B k l 0
  | 0, _ => rfl
  | d + 1, h => by
    rw [← R.col0s e hl h1 d (by omega)]
    exact R.col0 e (k := k + d) (by omega) (by omega) hl
theorem Run.col0a (R : Run m N W cost M B β r s) {i j : Nat} (e : ∀ l, l < m → β i l = β j l) {l : Nat} (hl : l < m) {k k' : Nat} (h1 : i ≤ k) (h2 : k ≤ j) (h3 : i ≤ k') (h4 : k' ≤ j) : B k l 0 = B k' l 0 := by
  have a := R.col0s e hl (Nat.le_refl i) (k - i) (by omega)
  have b := R.col0s e hl (Nat.le_refl i) (k' - i) (by omega)
  rw [show i + (k - i) = k by omega] at a
  rw [show i + (k' - i) = k' by omega] at b
  rw [a, b]
/-- between two times at which a row tells other columns lies a turn of this row by which it comes to tell the second one -/
theorem Run.comes (R : Run m N W cost M B β r s) {l : Nat} (hl : l < m) {c : Nat} {a : Nat} (ha : β a l ≠ c) : ∀ d, β (a + d) l = c → ∃ k, a ≤ k ∧ k < a + d ∧ r k = l ∧ s k = c
  | 0, h => absurd h ha
  | d + 1, h => by
    by_cases q : β (a + d) l = c
    · obtain ⟨k, h1, h2, h3⟩ := R.comes hl ha d q
      exact ⟨k, h1, by omega, h3⟩
    · have e : β (a + d + 1) l = pivB (β (a + d)) (r (a + d)) (s (a + d)) l := R.stepb (a + d) l hl
      have h' : β (a + d + 1) l = c := h
      rw [h'] at e
      by_cases z : l = r (a + d)
      · have e2 : c = s (a + d) := by
          rw [e]
          show (if l = r (a + d) then s (a + d) else _) = _
          rw [if_pos z]
        exact ⟨a + d, by omega, by omega, z.symm, e2.symm⟩
      · have e2 : c = β (a + d) l := by
          rw [e]
          show (if l = r (a + d) then _ else β (a + d) l) = _
          rw [if_neg z]
        exact absurd e2.symm q
/-- .. by which it ceases to tell the first one -/
theorem Run.goes (R : Run m N W cost M B β r s) {l : Nat} (hl : l < m) {c : Nat} {a : Nat} (ha : β a l = c) : ∀ d, β (a + d) l ≠ c → ∃ k, a ≤ k ∧ k < a + d ∧ r k = l ∧ β k l = c
  | 0, h => absurd ha h
  | d + 1, h => by
    by_cases q : β (a + d) l = c
    · have e : β (a + d + 1) l = pivB (β (a + d)) (r (a + d)) (s (a + d)) l := R.stepb (a + d) l hl
      by_cases z : l = r (a + d)
      · exact ⟨a + d, by omega, by omega, z.symm, q⟩
      · have e2 : β (a + d + 1) l = β (a + d) l := by
          rw [e]
          show (if l = r (a + d) then _ else β (a + d) l) = _
          rw [if_neg z]
        exact absurd (e2.trans q) h
    · obtain ⟨k, h1, h2, h3⟩ := R.goes hl ha d q
      exact ⟨k, h1, by omega, h3⟩
/-- in a ring: a row that tells c at one time, not at another one, comes to tell it at some time, and ceases to -/
theorem Run.ring (R : Run m N W cost M B β r s) {i j : Nat} (e : ∀ l, l < m → β i l = β j l) {l : Nat} (hl : l < m) {c k k' : Nat} (h1 : i ≤ k) (h2 : k ≤ j) (h3 : i ≤ k') (h4 : k' ≤ j) (y : β k l = c) (n : β k' l ≠ c) :
    (∃ a, i ≤ a ∧ a < j ∧ r a = l ∧ s a = c) ∧ (∃ b, i ≤ b ∧ b < j ∧ r b = l ∧ β b l = c) := by
  have el := e l hl
  constructor
  · by_cases q : k' ≤ k
    · obtain ⟨a, p1, p2, p3⟩ := R.comes hl n (k - k') (by rw [show k' + (k - k') = k by omega]; exact y)
      exact ⟨a, by omega, by omega, p3⟩
    · by_cases z : β j l = c
      · obtain ⟨a, p1, p2, p3⟩ := R.comes hl n (j - k') (by rw [show k' + (j - k') = j by omega]; exact z)
        exact ⟨a, by omega, by omega, p3⟩
      · obtain ⟨a, p1, p2, p3⟩ := R.comes (c := c) hl (a := i) (by rw [el]; exact z) (k - i) (by rw [show i + (k - i) = k by omega]; exact y)
        exact ⟨a, by omega, by omega, p3⟩
  · by_cases q : k ≤ k'
    · obtain ⟨a, p1, p2, p3⟩ := R.goes hl y (k' - k) (by rw [show k + (k' - k) = k' by omega]; exact n)
      exact ⟨a, by omega, by omega, p3⟩
    · by_cases z : β j l = c
      · obtain ⟨a, p1, p2, p3⟩ := R.goes (c := c) hl (a := i) (by rw [el]; exact z) (k' - i) (by rw [show i + (k' - i) = k' by omega]; exact n)
        exact ⟨a, by omega, by omega, p3⟩
      · obtain ⟨a, p1, p2, p3⟩ := R.goes hl y (j - k) (by rw [show k + (j - k) = j by omega]; exact z)
        exact ⟨a, by omega, by omega, p3⟩
/-- of some times, one with the greatest value -/
theorem greatest (f : Nat → Nat) (i : Nat) : ∀ d, ∃ k, i ≤ k ∧ k ≤ i + d ∧ ∀ a, i ≤ a → a ≤ i + d → f a ≤ f k
  | 0 => ⟨i, by omega, by omega, fun a h1 h2 => by rw [show a = i by omega]; exact Nat.le_refl _⟩
  | d + 1 => by
    obtain ⟨k, h1, h2, h3⟩ := greatest f i d
    by_cases q : f k ≤ f (i + d + 1)
    · refine ⟨i + d + 1, by omega, by omega, fun a p1 p2 => ?_⟩
      by_cases z : a = i + d + 1
      · rw [z]; exact Nat.le_refl _
      · exact Nat.le_trans (h3 a p1 (by omega)) q
    · refine ⟨k, h1, by omega, fun a p1 p2 => ?_⟩
      by_cases z : a = i + d + 1
      · rw [z]; omega
      · exact h3 a p1 (by omega)
/-- THE RULE: no endless run -/
theorem Run.no (R : Run m N W cost M B β r s) : False := by
  obtain ⟨i, j, hij, _, ec⟩ := pigeon (W ^ m) (fun k => code W (β k) m) fun k _ => code_lt (R.wide k)
  have e : ∀ l, l < m → β i l = β j l := code_inj (R.wide i) (R.wide j) ec
  -- the greatest column that comes in
  obtain ⟨ks, a1, a2, a3⟩ := greatest s i (j - 1 - i)
  have top : ∀ a, i ≤ a → a < j → s a ≤ s ks := fun a p q => a3 a p (by omega)
  have hks : ks < j := by omega
  have T := R.turn ks
  -- its row tells it then, and not ahead of it; so at some time it goes
  have y : β (ks + 1) (r ks) = s ks := by
    rw [R.stepb ks _ T.rm]
    show (if r ks = r ks then s ks else _) = s ks
    rw [if_pos rfl]
  have n : β ks (r ks) ≠ s ks := fun q => by
    have h := price_basis (cost := cost) (R.tab ks).idn T.rm
    rw [q] at h
    have := T.neg
    grind
  obtain ⟨_, k, k1, k2, k3, k4⟩ := R.ring e T.rm (k := ks + 1) (k' := ks) (by omega) (by omega) a1 (by omega) y n
  have U := R.turn k
  -- at time k the column s ks goes from row r ks = r k, s k comes
  have hsk : s k < s ks := by
    have h := top k k1 k2
    by_cases q : s k = s ks
    · exfalso
      have hb := price_basis (cost := cost) (R.tab k).idn T.rm
      rw [k4, ← q] at hb
      have := U.neg
      grind
    · omega
  have p1 : 0 ≤ Mx.price m cost (B ks) (β ks) (s k) := T.first _ U.s1 hsk
  have h2 := price_two (cost := cost) (R.tab k) (R.tab ks) (s k)
  have hpos : 0 < sumTo m (fun l => Mx.price m cost (B ks) (β ks) (β k l) * B k l (s k)) := by
    have := U.neg
    grind
  obtain ⟨l, hl, hv⟩ := sumTo_pos hpos
  have hv' : 0 < Mx.price m cost (B ks) (β ks) (β k l) * B k l (s k) := hv
  -- row l is another one
  have hne : β k l ≠ s ks := fun q => by
    have el : l = r ks := (R.tab k).idn.inj hl T.rm (by rw [q, k4])
    rw [q] at hv'
    have hp := U.pos
    rw [k3, ← el] at hp
    have hn := T.neg
    have h3 := Rat.mul_pos (show 0 < - Mx.price m cost (B ks) (β ks) (s ks) by grind) hp
    grind
  have hz : Mx.price m cost (B ks) (β ks) (β k l) ≠ 0 := fun q => by
    rw [q] at hv'
    grind
  have nb : β ks l ≠ β k l := fun q => by
    have h := price_basis (cost := cost) (R.tab ks).idn hl
    rw [q] at h
    exact hz h
  obtain ⟨⟨a, b1, b2, b3, b4⟩, _⟩ := R.ring e hl (c := β k l) (k := k) (k' := ks) k1 (by omega) a1 (by omega) rfl nb
  have hlt : β k l < s ks := by
    have h := top a b1 b2
    rw [b4] at h
    omega
  have hge : 0 ≤ Mx.price m cost (B ks) (β ks) (β k l) := T.first _ (by
    have h := (R.turn a).s1
    rw [b4] at h
    exact h) hlt
  have hB : 0 < B k l (s k) := by
    by_cases q : 0 < B k l (s k)
    · exact q
    · exfalso
      have h3 := Rat.mul_nonneg hge (show 0 ≤ - B k l (s k) by grind)
      grind
  have z1 : B k (r k) 0 = 0 := R.still e k1 k2
  have z2 : B k l 0 = 0 := by
    have h := R.still e b1 b2
    rw [b3] at h
    rw [R.col0a e hl k1 (by omega) b1 (by omega)]
    exact h
  rcases U.best l hl hB with q | ⟨_, q⟩
  · rw [z1, z2] at q
    grind
  · rw [k3, k4] at q
    omega
end
end Mx
set_option Elab.async false
/-! Whole equations that have one solution alone: how large its numbers can be. -/
namespace Mx
/-- an equation: coefficients, the right side -/
structure Eqn where
  co : Nat → Int
  rh : Int
def fit (n : Nat) (K : Nat) (e : Eqn) : Prop := (∀ i, i < n → (e.co i).natAbs ≤ K) ∧ e.rh.natAbs ≤ K
def lhs (n : Nat) (e : Eqn) (u : Nat → Rat) : Rat := sumTo n (fun i => (e.co i : Rat) * u i)
def bnd : Nat → Nat → Nat
  | 0, _ => 1
  | n + 1, K => (n + 1) * K * bnd n (2 * K * K)
theorem bnd_pos : ∀ {n K : Nat}, 0 < K → 0 < bnd n K
  | 0, _, _ => by show 0 < 1; omega
  | n + 1, K, h => by
    show 0 < (n + 1) * K * bnd n (2 * K * K)
    exact Nat.mul_pos (Nat.mul_pos (by omega) h) (bnd_pos (Nat.mul_pos (Nat.mul_pos (by omega) h) h))
/-- unknown n is taken out of e by means of e0 -/
def elim (n : Nat) (e0 e : Eqn) : Eqn := ⟨fun i => e0.co n * e.co i - e.co n * e0.co i, e0.co n * e.rh - e.co n * e0.rh⟩
theorem natAbs_two {a b c d : Int} {K : Nat} (ha : a.natAbs ≤ K) (hb : b.natAbs ≤ K) (hc : c.natAbs ≤ K) (hd : d.natAbs ≤ K) : (a * b - c * d).natAbs ≤ 2 * K * K := by
  have h1 : (a * b - c * d).natAbs ≤ (a * b).natAbs + (c * d).natAbs := Int.natAbs_sub_le _ _
  rw [Int.natAbs_mul, Int.natAbs_mul] at h1
  have h2 := Nat.mul_le_mul ha hb
  have h3 := Nat.mul_le_mul hc hd
  have h4 : 2 * K * K = K * K + K * K := by rw [Nat.mul_assoc]; omega
  omega
theorem elim_fit {n K : Nat} {e0 e : Eqn} (h0 : fit (n + 1) K e0) (h : fit (n + 1) K e) : fit n (2 * K * K) (elim n e0 e) :=
  ⟨fun i hi => natAbs_two (h0.1 n (by omega)) (h.1 i (by omega)) (h.1 n (by omega)) (h0.1 i (by omega)), natAbs_two (h0.1 n (by omega)) h.2 (h.1 n (by omega)) h0.2⟩
theorem elim_lhs (n : Nat) (e0 e : Eqn) (u : Nat → Rat) : lhs n (elim n e0 e) u = (e0.co n : Rat) * lhs n e u - (e.co n : Rat) * lhs n e0 u := by
  show sumTo n (fun i => ((e0.co n * e.co i - e.co n * e0.co i : Int) : Rat) * u i) = _
  have e1 : sumTo n (fun i => ((e0.co n * e.co i - e.co n * e0.co i : Int) : Rat) * u i) = sumTo n (fun i => (e0.co n : Rat) * ((e.co i : Rat) * u i) + (-(e.co n : Rat)) * ((e0.co i : Rat) * u i)) := sumTo_congr fun i _ => by
    rw [Rat.intCast_sub, Rat.intCast_mul, Rat.intCast_mul]
    grind
  rw [e1, sumTo_add, sumTo_mul, sumTo_mul]
  show (e0.co n : Rat) * lhs n e u + (-(e.co n : Rat)) * lhs n e0 u = _
  grind
theorem sumTo_int (f : Nat → Int) (g : Nat → Int) (D : Nat) (u : Nat → Rat) : ∀ n : Nat, (∀ i, i < n → u i * (D : Rat) = (g i : Rat)) → ∃ z : Int, sumTo n (fun i => (f i : Rat) * u i) * (D : Rat) = (z : Rat) ∧ ∀ K F : Nat, (∀ i, i < n → (f i).natAbs ≤ K) → (∀ i, i < n → (g i).natAbs ≤ F) → z.natAbs ≤ n * (K * F)
  | 0, _ => ⟨0, by show (0 : Rat) * (D : Rat) = ((0 : Int) : Rat); rw [Rat.intCast_zero]; grind, fun K F _ _ => by simp⟩
  | n + 1, h => by
    obtain ⟨z, hz, hb⟩ := sumTo_int f g D u n fun i hi => h i (by omega)
    refine ⟨z + f n * g n, ?_, fun K F hK hF => ?_⟩
    · show (sumTo n (fun i => (f i : Rat) * u i) + (f n : Rat) * u n) * (D : Rat) = _
      have h1 := h n (by omega)
      rw [Rat.intCast_add, Rat.intCast_mul]
      grind
    · have h1 := hb K F (fun i hi => hK i (by omega)) (fun i hi => hF i (by omega))
      have h2 : (z + f n * g n).natAbs ≤ z.natAbs + (f n * g n).natAbs := Int.natAbs_add_le _ _
      rw [Int.natAbs_mul] at h2
      have h3 := Nat.mul_le_mul (hK n (by omega)) (hF n (by omega))
      rw [Nat.add_mul, Nat.one_mul]
      omega
/-- the one solution has a common denominator; both it and the numerators are bounded -/
theorem solved_small : ∀ (n K : Nat) (E : List Eqn) (u : Nat → Rat), 0 < K → (∀ e ∈ E, fit n K e) → (∀ e ∈ E, lhs n e u = (e.rh : Rat)) →
    (∀ v : Nat → Rat, (∀ e ∈ E, lhs n e v = 0) → ∀ i, i < n → v i = 0) → ∃ (D : Nat) (g : Nat → Int), 0 < D ∧ D ≤ bnd n K ∧ ∀ i, i < n → u i * (D : Rat) = (g i : Rat) ∧ (g i).natAbs ≤ bnd n K
  | 0, K, E, u, _, _, _, _ => ⟨1, fun _ => 0, by omega, by show 1 ≤ 1; omega, fun i hi => by omega⟩
  | n + 1, K, E, u, hK, hf, hs, hu => by
    by_cases q : ∃ e ∈ E, e.co n ≠ 0
    · obtain ⟨e0, he0, hn⟩ := q
      have hnr : (e0.co n : Rat) ≠ 0 := fun z => hn (Rat.intCast_eq_zero_iff.mp z)
      have hlhs : ∀ (e : Eqn) (v : Nat → Rat), lhs (n + 1) e v = lhs n e v + (e.co n : Rat) * v n := fun _ _ => rfl
      obtain ⟨D, g, hD, hDb, hg⟩ := solved_small n (2 * K * K) (E.map (elim n e0)) u (Nat.mul_pos (Nat.mul_pos (by omega) hK) hK)
        (fun e he => by
          obtain ⟨e1, h1, rfl⟩ := List.mem_map.mp he
          exact elim_fit (hf e0 he0) (hf e1 h1))
        (fun e he => by
          obtain ⟨e1, h1, rfl⟩ := List.mem_map.mp he
          rw [elim_lhs]
          have a := hs e0 he0
          have b := hs e1 h1
          rw [hlhs] at a b
          show _ = ((e0.co n * e1.rh - e1.co n * e0.rh : Int) : Rat)
          rw [Rat.intCast_sub, Rat.intCast_mul, Rat.intCast_mul, ← a, ← b]
          grind)
        (fun v hv i hi => by
          have hw := hu (fun j => if j = n then -(lhs n e0 v) / (e0.co n : Rat) else v j) (fun e he => by
            have low : ∀ e1 : Eqn, lhs n e1 (fun j => if j = n then -(lhs n e0 v) / (e0.co n : Rat) else v j) = lhs n e1 v := fun e1 => sumTo_congr fun j hj => by
              show _ * (if j = n then _ else v j) = _
              rw [if_neg (by omega)]
            rw [hlhs, low]
            show lhs n e v + (e.co n : Rat) * (if n = n then -(lhs n e0 v) / (e0.co n : Rat) else v n) = 0
            rw [if_pos rfl]
            have h1 := hv (elim n e0 e) (List.mem_map.mpr ⟨e, he, rfl⟩)
            rw [elim_lhs] at h1
            have h2 : lhs n e v = (e.co n : Rat) * lhs n e0 v / (e0.co n : Rat) := by grind
            rw [h2]
            grind) i (by omega)
          have h3 : (if i = n then -(lhs n e0 v) / (e0.co n : Rat) else v i) = 0 := hw
          rw [if_neg (by omega)] at h3
          exact h3)
      obtain ⟨z, hz, hzb⟩ := sumTo_int e0.co g D u n fun i hi => (hg i hi).1
      -- the last one
      have a := hs e0 he0
      rw [hlhs] at a
      have hlast : u n * (D : Rat) * (e0.co n : Rat) = ((e0.rh * (D : Int) - z : Int) : Rat) := by
        rw [Rat.intCast_sub, Rat.intCast_mul, ← hz]
        show _ = (e0.rh : Rat) * (((D : Nat) : Int) : Rat) - lhs n e0 u * (D : Rat)
        rw [Rat.intCast_natCast]
        grind
      have hF : 0 < bnd n (2 * K * K) := bnd_pos (Nat.mul_pos (Nat.mul_pos (by omega) hK) hK)
      have h0 := (hf e0 he0).1 n (by omega)
      have hr := (hf e0 he0).2
      have hbn : bnd (n + 1) K = (n + 1) * K * bnd n (2 * K * K) := rfl
      have hk1 : K * bnd n (2 * K * K) ≤ bnd (n + 1) K := by
        rw [hbn, Nat.mul_assoc (n + 1) K, Nat.add_mul, Nat.one_mul]
        exact Nat.le_add_left _ _
      have hzz := hzb K (bnd n (2 * K * K)) (fun i hi => (hf e0 he0).1 i (by omega)) (fun i hi => (hg i hi).2)
      refine ⟨(e0.co n).natAbs * D, fun i => if i = n then (if 0 < e0.co n then e0.rh * (D : Int) - z else -(e0.rh * (D : Int) - z)) else (e0.co n).natAbs * g i, ?_, ?_, fun i hi => ?_⟩
      · exact Nat.mul_pos (by omega) hD
      · exact Nat.le_trans (Nat.mul_le_mul h0 hDb) hk1
      · have eD : (((e0.co n).natAbs * D : Nat) : Rat) = (((e0.co n).natAbs : Int) : Rat) * (D : Rat) := by
          rw [Rat.natCast_mul, Rat.intCast_natCast]
        by_cases q : i = n
        · subst q
          dsimp only
          rw [if_pos rfl, eD]
          constructor
          · by_cases p : 0 < e0.co i
            · rw [if_pos p, ← hlast, show (((e0.co i).natAbs : Nat) : Int) = e0.co i by omega]
              grind
            · rw [if_neg p, Rat.intCast_neg, ← hlast, show (((e0.co i).natAbs : Nat) : Int) = -(e0.co i) by omega, Rat.intCast_neg]
              grind
          · have e1 : (if 0 < e0.co i then e0.rh * (D : Int) - z else -(e0.rh * (D : Int) - z)).natAbs = (e0.rh * (D : Int) - z).natAbs := by
              split
              · rfl
              · rw [Int.natAbs_neg]
            rw [e1]
            have h2 : (e0.rh * (D : Int) - z).natAbs ≤ (e0.rh * (D : Int)).natAbs + z.natAbs := Int.natAbs_sub_le _ _
            rw [Int.natAbs_mul, Int.natAbs_natCast] at h2
            have h3 := Nat.mul_le_mul hr hDb
            have h4 : bnd (i + 1) K = i * (K * bnd i (2 * K * K)) + K * bnd i (2 * K * K) := by
              rw [hbn, Nat.mul_assoc (i + 1) K, Nat.add_mul, Nat.one_mul]
            omega
        · dsimp only
          rw [if_neg q, eD]
          have hgi := hg i (by omega)
          constructor
          · rw [Rat.intCast_mul, ← hgi.1]
            grind
          · rw [Int.natAbs_mul, Int.natAbs_natCast]
            exact Nat.le_trans (Nat.mul_le_mul h0 hgi.2) hk1
    · -- no equation asks the last unknown: it is not told
      exfalso
      have h1 := hu (fun j => if j = n then 1 else 0) (fun e he => by
        have z : e.co n = 0 := by
          by_cases p : e.co n = 0
          · exact p
          · exact absurd ⟨e, he, p⟩ q
        refine sumTo_zero fun i hi => ?_
        by_cases p : i = n
        · rw [p, z, Rat.intCast_zero]; grind
        · show _ * (if i = n then 1 else 0) = 0
          rw [if_neg p]; grind) n (by omega)
      have h2 : (if n = n then (1 : Rat) else 0) = 0 := h1
      rw [if_pos rfl] at h2
      exact absurd h2 (by grind)
theorem mul_den (q : Rat) : q * (q.den : Rat) = (q.num : Rat) := by
  have h : (q.den : Rat) ≠ 0 := fun z => q.den_nz (Rat.natCast_eq_zero_iff.mp z)
  have e : q = (q.num : Rat) / (q.den : Rat) := by
    rw [← Rat.mkRat_eq_div, Rat.mkRat_self]
  generalize (q.num : Rat) = a at *
  generalize (q.den : Rat) = b at *
  rw [e]
  grind
/-- a number with such a denominator, in lowest terms -/
theorem low_of {q : Rat} {D : Nat} {g : Int} (hD : 0 < D) (h : q * (D : Rat) = (g : Rat)) : q.den ≤ D ∧ q.num.natAbs ≤ g.natAbs := by
  have e : q.num * (D : Int) = g * (q.den : Int) := by
    have h1 : q * (q.den : Rat) = (q.num : Rat) := mul_den q
    have h2 : ((q.num * (D : Int) : Int) : Rat) = ((g * (q.den : Int) : Int) : Rat) := by
      rw [Rat.intCast_mul, Rat.intCast_mul, ← h1, ← h, Rat.intCast_natCast, Rat.intCast_natCast]
      grind
    exact Rat.intCast_inj.mp h2
  have e2 : q.num.natAbs * D = g.natAbs * q.den := by
    have h1 := congrArg Int.natAbs e
    rw [Int.natAbs_mul, Int.natAbs_mul, Int.natAbs_natCast, Int.natAbs_natCast] at h1
    exact h1
  have d1 : q.den ∣ D := by
    have h1 : q.den ∣ q.num.natAbs * D := ⟨g.natAbs, by rw [e2, Nat.mul_comm]⟩
    exact (Nat.Coprime.dvd_of_dvd_mul_left (q.reduced.symm) h1)
  have l1 := Nat.le_of_dvd hD d1
  refine ⟨l1, ?_⟩
  obtain ⟨k, rfl⟩ := d1
  have hk : 0 < k := by
    rcases Nat.eq_zero_or_pos k with z | z
    · rw [z, Nat.mul_zero] at hD
      exact absurd hD (by omega)
    · exact z
  have e3 : q.num.natAbs * k = g.natAbs := by
    have h1 : q.den * (q.num.natAbs * k) = q.den * g.natAbs := by
      rw [← Nat.mul_assoc, Nat.mul_comm q.den q.num.natAbs, Nat.mul_assoc, e2, Nat.mul_comm]
    exact Nat.eq_of_mul_eq_mul_left q.den_pos h1
  rw [← e3]
  exact Nat.le_mul_of_pos_right _ hk
end Mx
set_option Elab.async false
/-! The walk over tableaux as the program takes it: it ends, and what it ends at tells values or weights. -/
namespace Mx
structure Fr where
  B : Nat → Row
  β : Nat → Nat
/-- the numbers 1 .. N - 1 that p keeps -/
def kept (N : Nat) (p : Nat → Bool) : List Nat := ((List.range (N - 1)).map (1 + ·)).filter p
theorem kept_mem {N : Nat} {p : Nat → Bool} {c : Nat} : c ∈ kept N p ↔ (1 ≤ c ∧ c < N) ∧ p c = true := by
  unfold kept
  rw [List.mem_filter, List.mem_map]
  constructor
  · rintro ⟨⟨a, h, rfl⟩, h2⟩
    rw [List.mem_range] at h
    exact ⟨by omega, h2⟩
  · rintro ⟨⟨h1, h2⟩, h3⟩
    exact ⟨⟨c - 1, List.mem_range.mpr (by omega), by omega⟩, h3⟩
theorem kept_first {N : Nat} {p : Nat → Bool} {s : Nat} {l : List Nat} (h : kept N p = s :: l) : (1 ≤ s ∧ s < N) ∧ p s = true ∧ ∀ c, 1 ≤ c → c < s → p c = false := by
  have hm : s ∈ kept N p := by rw [h]; exact List.mem_cons_self
  obtain ⟨h1, h2⟩ := kept_mem.mp hm
  refine ⟨h1, h2, fun c hc hs => ?_⟩
  cases q : p c with
  | false => rfl
  | true =>
    exfalso
    have hcm : c ∈ kept N p := kept_mem.mpr ⟨⟨hc, by omega⟩, q⟩
    have hp : (kept N p).Pairwise (· < ·) := by
      unfold kept
      refine List.Pairwise.filter _ ?_
      refine List.Pairwise.map _ (fun a b h => ?_) List.pairwise_lt_range
      show 1 + a < 1 + b
      omega
    rw [h] at hp hcm
    rcases List.mem_cons.mp hcm with e | e
    · omega
    · have := (List.pairwise_cons.mp hp).1 c e
      omega
def bel (N : Nat) (p : Row) : List Nat := kept N fun c => decide (p c < 0)
theorem bel_nil {N : Nat} {p : Row} (h : bel N p = []) {c : Nat} (h1 : 1 ≤ c) (h2 : c < N) : 0 ≤ p c := by
  by_cases q : p c < 0
  · exfalso
    have hm : c ∈ bel N p := kept_mem.mpr ⟨⟨h1, h2⟩, decide_eq_true q⟩
    rw [h] at hm
    exact nomatch hm
  · grind
theorem bel_cons {N : Nat} {p : Row} {s : Nat} {l : List Nat} (h : bel N p = s :: l) : 1 ≤ s ∧ s < N ∧ p s < 0 ∧ ∀ c, 1 ≤ c → c < s → 0 ≤ p c := by
  obtain ⟨h1, h2, h3⟩ := kept_first h
  refine ⟨h1.1, h1.2, of_decide_eq_true h2, fun c hc hs => ?_⟩
  have := of_decide_eq_false (h3 c hc hs)
  grind
/-- row k takes the place of row f -/
def beats (B : Nat → Row) (β : Nat → Nat) (s k f : Nat) : Prop := B k 0 / B k s < B f 0 / B f s ∨ (B k 0 / B k s = B f 0 / B f s ∧ β k < β f)
instance {B : Nat → Row} {β : Nat → Nat} {s k f : Nat} : Decidable (beats B β s k f) := by unfold beats; infer_instance
def leave (B : Nat → Row) (β : Nat → Nat) (s : Nat) : Nat → Option Nat
  | 0 => none
  | k + 1 => if 0 < B k s then (match leave B β s k with | none => some k | some f => if beats B β s k f then some k else some f) else leave B β s k
theorem leave_none {B : Nat → Row} {β : Nat → Nat} {s : Nat} : ∀ {k : Nat}, leave B β s k = none → ∀ i, i < k → ¬ 0 < B i s
  | 0, _, i, hi => by omega
  | k + 1, h, i, hi => by
    have h' : (if 0 < B k s then (match leave B β s k with | none => some k | some f => if beats B β s k f then some k else some f) else leave B β s k) = none := h
    by_cases q : 0 < B k s
    · rw [if_pos q] at h'
      cases z : leave B β s k with
      | none => rw [z] at h'; exact nomatch h'
      | some f =>
        rw [z] at h'
        dsimp only at h'
        split at h' <;> exact nomatch h'
    · rw [if_neg q] at h'
      by_cases e : i = k
      · rw [e]; exact q
      · exact leave_none h' i (by omega)
theorem leave_some {B : Nat → Row} {β : Nat → Nat} {s : Nat} : ∀ {k r : Nat}, leave B β s k = some r → r < k ∧ 0 < B r s ∧ ∀ i, i < k → 0 < B i s → B r 0 / B r s < B i 0 / B i s ∨ (B r 0 / B r s = B i 0 / B i s ∧ β r ≤ β i)
  | 0, r, h => nomatch h
  | k + 1, r, h => by
    have h' : (if 0 < B k s then (match leave B β s k with | none => some k | some f => if beats B β s k f then some k else some f) else leave B β s k) = some r := h
    by_cases q : 0 < B k s
    · rw [if_pos q] at h'
      cases z : leave B β s k with
      | none =>
        rw [z] at h'
        obtain rfl : k = r := Option.some.inj h'
        refine ⟨by omega, q, fun i hi hp => ?_⟩
        by_cases e : i = k
        · subst e; exact .inr ⟨rfl, Nat.le_refl _⟩
        · exact absurd hp (leave_none z i (by omega))
      | some f =>
        rw [z] at h'
        dsimp only at h'
        obtain ⟨f1, f2, f3⟩ := leave_some z
        by_cases y : beats B β s k f
        · rw [if_pos y] at h'
          obtain rfl : k = r := Option.some.inj h'
          refine ⟨by omega, q, fun i hi hp => ?_⟩
          by_cases e : i = k
          · subst e; exact .inr ⟨rfl, Nat.le_refl _⟩
          · have h1 := f3 i (by omega) hp
            unfold beats at y
            rcases y with y | ⟨y1, y2⟩
            · refine .inl ?_
              rcases h1 with h1 | ⟨h1, _⟩ <;> grind
            · rcases h1 with h1 | ⟨h1, h2⟩
              · refine .inl ?_; grind
              · exact .inr ⟨by grind, by omega⟩
        · rw [if_neg y] at h'
          obtain rfl : f = r := Option.some.inj h'
          refine ⟨by omega, f2, fun i hi hp => ?_⟩
          by_cases e : i = k
          · subst e
            unfold beats at y
            by_cases w : B f 0 / B f s < B i 0 / B i s
            · exact .inl w
            · refine .inr ?_
              have w2 : B f 0 / B f s = B i 0 / B i s := by
                have : ¬ B i 0 / B i s < B f 0 / B f s := fun z => y (.inl z)
                grind
              refine ⟨w2, ?_⟩
              by_cases v : β f ≤ β i
              · exact v
              · exact absurd (.inr ⟨w2.symm, by omega⟩) y
          · exact f3 i (by omega) hp
    · rw [if_neg q] at h'
      obtain ⟨f1, f2, f3⟩ := leave_some h'
      refine ⟨by omega, f2, fun i hi hp => ?_⟩
      by_cases e : i = k
      · rw [e] at hp; exact absurd hp q
      · exact f3 i (by omega) hp
def pr (m : Nat) (cost : Row) (f : Fr) : Row := price m cost f.B f.β
def next (m N : Nat) (cost : Row) (f : Fr) : Fr := match bel N (pr m cost f) with
  | [] => f
  | s :: _ => match leave f.B f.β s m with
    | none => f
    | some r => ⟨piv f.B r s, pivB f.β r s⟩
def it (m N : Nat) (cost : Row) (f : Fr) : Nat → Fr
  | 0 => f
  | k + 1 => next m N cost (it m N cost f k)
structure Good (m W : Nat) (M : Nat → Row) (f : Fr) : Prop where
  tab : Tab m M f.B f.β
  nn : ∀ i, i < m → 0 ≤ f.B i 0
  wide : ∀ i, i < m → f.β i < W
  low : ∀ i, i < m → 1 ≤ f.β i
section
variable {m N W : Nat} {M : Nat → Row} {cost : Row}
theorem Good.leaves {f : Fr} (g : Good m W M f) (hc : ∀ j, 0 ≤ cost j) {s : Nat} (h : pr m cost f s < 0) : ∃ r, leave f.B f.β s m = some r := by
  cases q : leave f.B f.β s m with
  | some r => exact ⟨r, rfl⟩
  | none =>
    exfalso
    have h1 : sumTo m (fun i => cost (f.β i) * f.B i s) ≤ 0 := sumTo_nonpos fun i hi => by
      have h2 := leave_none q i hi
      have h3 := Rat.mul_nonneg (hc (f.β i)) (show 0 ≤ - f.B i s by grind)
      grind
    have h4 := hc s
    have h5 : pr m cost f s = cost s - sumTo m (fun i => cost (f.β i) * f.B i s) := rfl
    grind
theorem turn_of {f : Fr} {s r : Nat} {l : List Nat} (hb : bel N (pr m cost f) = s :: l) (hl : leave f.B f.β s m = some r) : Turn m N cost f.B f.β r s := by
  obtain ⟨b1, b2, b3, b4⟩ := bel_cons hb
  obtain ⟨l1, l2, l3⟩ := leave_some hl
  exact ⟨b1, b2, b3, b4, l1, l2, l3⟩
theorem Good.turned {f : Fr} (g : Good m W M f) {s r : Nat} (t : Turn m N cost f.B f.β r s) (hN : N ≤ W) : Good m W M ⟨piv f.B r s, pivB f.β r s⟩ :=
  ⟨g.tab.piv t.rm (fun e => by have := t.pos; grind), t.nonneg g.nn, fun i hi => by
    show (if i = r then s else f.β i) < W
    split
    · have := t.sN; omega
    · exact g.wide i hi, fun i hi => by
    show 1 ≤ (if i = r then s else f.β i)
    split
    · exact t.s1
    · exact g.low i hi⟩
theorem Good.next {f : Fr} (g : Good m W M f) (hN : N ≤ W) : Good m W M (next m N cost f) := by
  unfold Mx.next
  split
  · exact g
  · rename_i s l hb
    split
    · exact g
    · rename_i r hl
      exact g.turned (turn_of hb hl) hN
theorem Good.it {f : Fr} (g : Good m W M f) (hN : N ≤ W) : ∀ k, Good m W M (it m N cost f k)
  | 0 => g
  | k + 1 => (Good.it g hN k).next hN
theorem it_stay {f : Fr} {k : Nat} (h : bel N (pr m cost (it m N cost f k)) = []) : ∀ d, it m N cost f (k + d) = it m N cost f k
  | 0 => rfl
  | d + 1 => by
    show next m N cost (it m N cost f (k + d)) = _
    rw [it_stay h d]
    unfold next
    rw [h]
/-- THE RULE: the walk ends -/
theorem Good.ends {f : Fr} (g : Good m W M f) (hN : N ≤ W) (hc : ∀ j, 0 ≤ cost j) : ∃ k, bel N (pr m cost (Mx.it m N cost f k)) = [] := by
  by_cases q : ∃ k, bel N (pr m cost (Mx.it m N cost f k)) = []
  · exact q
  · exfalso
    have st : ∀ k, ∃ s r, Turn m N cost (Mx.it m N cost f k).B (Mx.it m N cost f k).β r s ∧ Mx.it m N cost f (k + 1) = ⟨piv (Mx.it m N cost f k).B r s, pivB (Mx.it m N cost f k).β r s⟩ := fun k => by
      cases e : bel N (pr m cost (Mx.it m N cost f k)) with
      | nil => exact absurd ⟨k, e⟩ q
      | cons s l =>
        obtain ⟨r, hr⟩ := (g.it (N := N) (cost := cost) hN k).leaves hc (bel_cons e).2.2.1
        refine ⟨s, r, turn_of e hr, ?_⟩
        show Mx.next m N cost (Mx.it m N cost f k) = _
        unfold Mx.next
        rw [e]
        dsimp only
        rw [hr]
    refine Run.no (m := m) (N := N) (W := W) (cost := cost) (M := M) (B := fun k => (Mx.it m N cost f k).B) (β := fun k => (Mx.it m N cost f k).β) (r := fun k => Classical.choose (Classical.choose_spec (st k))) (s := fun k => Classical.choose (st k)) ⟨fun k => (g.it hN k).tab, fun k => (g.it hN k).nn, fun k => (g.it hN k).wide, fun k => (Classical.choose_spec (Classical.choose_spec (st k))).1, fun k i hi j => ?_, fun k i hi => ?_⟩
    · have h := (Classical.choose_spec (Classical.choose_spec (st k))).2
      exact congrArg (fun z => z.B i j) h
    · have h := (Classical.choose_spec (Classical.choose_spec (st k))).2
      exact congrArg (fun z => z.β i) h
end
open Classical in
/-- where the walk ends -/
noncomputable def fin (m N : Nat) (cost : Row) (f : Fr) : Fr := if h : ∃ k, bel N (pr m cost (it m N cost f k)) = [] then it m N cost f h.choose else f
section
variable {m N W : Nat} {M : Nat → Row} {cost : Row}
theorem fin_at {f : Fr} {k : Nat} (h : bel N (pr m cost (it m N cost f k)) = []) : fin m N cost f = it m N cost f k := by
  have hx : ∃ k, bel N (pr m cost (it m N cost f k)) = [] := ⟨k, h⟩
  unfold fin
  rw [dif_pos hx]
  have h2 := hx.choose_spec
  rcases Nat.le_total k hx.choose with z | z
  · obtain ⟨d, e⟩ := Nat.exists_eq_add_of_le z
    rw [e]
    exact it_stay h d
  · obtain ⟨d, e⟩ := Nat.exists_eq_add_of_le z
    have h3 := it_stay h2 d
    rw [← e] at h3
    exact h3.symm
theorem Good.fin {f : Fr} (g : Good m W M f) (hN : N ≤ W) (hc : ∀ j, 0 ≤ cost j) : Good m W M (fin m N cost f) ∧ bel N (pr m cost (Mx.fin m N cost f)) = [] := by
  obtain ⟨k, h⟩ := g.ends hN hc
  rw [fin_at h]
  exact ⟨g.it hN k, h⟩
end
end Mx
set_option Elab.async false
set_option linter.all false
/-! The first tableau, what its end tells; without the filling columns; how large the numbers are. -/
namespace Mx
/-! ### the first tableau -/
section
variable (m n : Nat) (A : Nat → Nat → Int) (b : Nat → Int)
def sg (i : Nat) : Int := if b i < 0 then -1 else 1
def MI (i j : Nat) : Int := if j = 0 then sg b i * b i else if j < 1 + n then sg b i * A i (j - 1) else if j < 1 + n + m then (if i = j - (1 + n) then sg b i else 0) else if i = j - (1 + n + m) then 1 else 0
def M0 : Nat → Row := fun i j => (MI m n A b i j : Rat)
def b0 : Nat → Nat := fun i => 1 + n + i + (if b i < 0 then m else 0)
def F0 : Fr := ⟨M0 m n A b, b0 m n b⟩
def c1 : Row := fun j => if j < 1 + n + m then 0 else 1
end
section
variable {m n : Nat} {A : Nat → Nat → Int} {b : Nat → Int}
theorem sg_two (i : Nat) : sg b i = 1 ∨ sg b i = -1 := by unfold sg; split <;> simp
theorem M0_zero (i : Nat) : M0 m n A b i 0 = (sg b i : Rat) * (b i : Rat) := by
  show ((MI m n A b i 0 : Int) : Rat) = _
  rw [show MI m n A b i 0 = sg b i * b i from rfl, Rat.intCast_mul]
theorem M0_x (i : Nat) {j : Nat} (h : j < n) : M0 m n A b i (1 + j) = (sg b i : Rat) * (A i j : Rat) := by
  show ((MI m n A b i (1 + j) : Int) : Rat) = _
  have e : MI m n A b i (1 + j) = sg b i * A i j := by
    unfold MI
    rw [if_neg (by omega), if_pos (by omega), show 1 + j - 1 = j by omega]
  rw [e, Rat.intCast_mul]
theorem M0_spare (i : Nat) {k : Nat} (h : k < m) : M0 m n A b i (1 + n + k) = if i = k then (sg b i : Rat) else 0 := by
  show ((MI m n A b i (1 + n + k) : Int) : Rat) = _
  have e : MI m n A b i (1 + n + k) = if i = k then sg b i else 0 := by
    unfold MI
    rw [if_neg (by omega), if_neg (by omega), if_pos (by omega), show 1 + n + k - (1 + n) = k by omega]
  rw [e]
  split <;> rfl
theorem M0_fill (i : Nat) (k : Nat) : M0 m n A b i (1 + n + m + k) = if i = k then (1 : Rat) else 0 := by
  show ((MI m n A b i (1 + n + m + k) : Int) : Rat) = _
  have e : MI m n A b i (1 + n + m + k) = if i = k then 1 else 0 := by
    unfold MI
    rw [if_neg (by omega), if_neg (by omega), if_neg (by omega), show 1 + n + m + k - (1 + n + m) = k by omega]
  rw [e]
  split <;> rfl
theorem F0_good : Good m (1 + n + m + m) (M0 m n A b) (F0 m n A b) := by
  refine ⟨⟨Spn.refl, Spn.refl, fun i hi l hl => ?_⟩, fun i hi => ?_, fun i hi => ?_, fun i hi => ?_⟩
  · show M0 m n A b i (1 + n + l + (if b l < 0 then m else 0)) = _
    by_cases q : b l < 0
    · rw [if_pos q, show 1 + n + l + m = 1 + n + m + l by omega, M0_fill]
    · rw [if_neg q, show 1 + n + l + 0 = 1 + n + l by omega, M0_spare i hl]
      by_cases e : i = l
      · subst e
        rw [if_pos rfl, if_pos rfl]
        unfold sg
        rw [if_neg q]
        rfl
      · rw [if_neg e, if_neg e]
  · show 0 ≤ M0 m n A b i 0
    show 0 ≤ ((MI m n A b i 0 : Int) : Rat)
    rw [show MI m n A b i 0 = sg b i * b i from rfl]
    have h : 0 ≤ sg b i * b i := by
      unfold sg
      split <;> omega
    exact Rat.intCast_nonneg.mpr h
  · show 1 + n + i + (if b i < 0 then m else 0) < _
    split <;> omega
  · show 1 ≤ 1 + n + i + (if b i < 0 then m else 0)
    omega
theorem c1_nn (j : Nat) : 0 ≤ c1 m n j := by
  unfold c1
  split <;> grind
/-- the sign squared -/
theorem sg_sq (i : Nat) : (sg b i : Rat) * (sg b i : Rat) = 1 := by
  rw [← Rat.intCast_mul]
  have h : sg b i * sg b i = 1 := by rcases sg_two (b := b) i with e | e <;> rw [e] <;> rfl
  rw [h]
  rfl
/-- the weights that are told by prices -/
def wt (n : Nat) (p : Row) : Row := fun k => p (1 + n + k)
/-- what the prices are, by the weights -/
theorem pr_by {f : Fr} (t : Tab m (M0 m n A b) f.B f.β) :
    pr m (c1 m n) f 0 = sumTo m (fun k => wt n (pr m (c1 m n) f) k * (b k : Rat)) ∧ ∀ j, j < n → pr m (c1 m n) f (1 + j) = sumTo m (fun k => wt n (pr m (c1 m n) f) k * (A k j : Rat)) := by
  obtain ⟨c, hc⟩ := price_in (cost := c1 m n) t
  have hs : ∀ k, k < m → wt n (pr m (c1 m n) f) k = c k * (sg b k : Rat) := fun k hk => by
    have h := hc (1 + n + k)
    rw [sumTo_one (k := k) hk (fun i _ hi => by rw [M0_spare i hk, if_neg hi]; grind), M0_spare k hk, if_pos rfl] at h
    have e : c1 m n (1 + n + k) = 0 := by unfold c1; rw [if_pos (by omega)]
    have h2 : pr m (c1 m n) f (1 + n + k) - c1 m n (1 + n + k) = c k * (sg b k : Rat) := h
    show pr m (c1 m n) f (1 + n + k) = _
    grind
  constructor
  · have h := hc 0
    have e : c1 m n 0 = 0 := by unfold c1; rw [if_pos (by omega)]
    have h2 : pr m (c1 m n) f 0 - c1 m n 0 = sumTo m (fun k => c k * M0 m n A b k 0) := h
    rw [e] at h2
    have h3 : sumTo m (fun k => c k * M0 m n A b k 0) = sumTo m (fun k => wt n (pr m (c1 m n) f) k * (b k : Rat)) := sumTo_congr fun k hk => by
      rw [hs k hk, M0_zero]
      grind
    grind
  · intro j hj
    have h := hc (1 + j)
    have e : c1 m n (1 + j) = 0 := by unfold c1; rw [if_pos (by omega)]
    have h2 : pr m (c1 m n) f (1 + j) - c1 m n (1 + j) = sumTo m (fun k => c k * M0 m n A b k (1 + j)) := h
    rw [e] at h2
    have h3 : sumTo m (fun k => c k * M0 m n A b k (1 + j)) = sumTo m (fun k => wt n (pr m (c1 m n) f) k * (A k j : Rat)) := sumTo_congr fun k hk => by
      rw [hs k hk, M0_x k hj]
      grind
    grind
/-- weights that bar -/
structure Bars (m n : Nat) (A : Nat → Nat → Int) (b : Nat → Int) (w : Row) : Prop where
  nn : ∀ k, k < m → 0 ≤ w k
  col : ∀ j, j < n → 0 ≤ sumTo m (fun k => w k * (A k j : Rat))
  neg : sumTo m (fun k => w k * (b k : Rat)) < 0
structure Fits (m n : Nat) (A : Nat → Nat → Int) (b : Nat → Int) (x : Row) : Prop where
  nn : ∀ j, j < n → 0 ≤ x j
  row : ∀ k, k < m → sumTo n (fun j => (A k j : Rat) * x j) ≤ (b k : Rat)
theorem Bars.no {w x : Row} (h : Bars m n A b w) (f : Fits m n A b x) : False := by
  have h1 : sumTo m (fun k => w k * (b k : Rat)) - sumTo m (fun k => w k * sumTo n (fun j => (A k j : Rat) * x j)) = sumTo m (fun k => w k * ((b k : Rat) - sumTo n (fun j => (A k j : Rat) * x j))) := by
    have e : sumTo m (fun k => w k * ((b k : Rat) - sumTo n (fun j => (A k j : Rat) * x j))) = sumTo m (fun k => w k * (b k : Rat) + -1 * (w k * sumTo n (fun j => (A k j : Rat) * x j))) := sumTo_congr fun k _ => by grind
    rw [e, sumTo_add, sumTo_mul]
    grind
  have h2 : 0 ≤ sumTo m (fun k => w k * ((b k : Rat) - sumTo n (fun j => (A k j : Rat) * x j))) := sumTo_nonneg fun k hk => Rat.mul_nonneg (h.nn k hk) (by have := f.row k hk; grind)
  have h3 : sumTo m (fun k => w k * sumTo n (fun j => (A k j : Rat) * x j)) = sumTo n (fun j => sumTo m (fun k => w k * (A k j : Rat)) * x j) := by
    have e : sumTo m (fun k => w k * sumTo n (fun j => (A k j : Rat) * x j)) = sumTo m (fun k => sumTo n (fun j => w k * (A k j : Rat) * x j)) := sumTo_congr fun k _ => by
      rw [← sumTo_mul]
      exact sumTo_congr fun j _ => by grind
    rw [e, sumTo_comm]
    exact sumTo_congr fun j _ => sumTo_mulr (x j) (fun k => w k * (A k j : Rat)) m
  have h4 : 0 ≤ sumTo n (fun j => sumTo m (fun k => w k * (A k j : Rat)) * x j) := sumTo_nonneg fun j hj => Rat.mul_nonneg (h.col j hj) (f.nn j hj)
  have := h.neg
  grind
/-- the prices' first place: 0 less what fills -/
theorem pr_zero {f : Fr} (g : Good m (1 + n + m + m) (M0 m n A b) f) : pr m (c1 m n) f 0 ≤ 0 ∧ (pr m (c1 m n) f 0 = 0 → ∀ i, i < m → 1 + n + m ≤ f.β i → f.B i 0 = 0) := by
  have e : pr m (c1 m n) f 0 = c1 m n 0 - sumTo m (fun i => c1 m n (f.β i) * f.B i 0) := rfl
  have e0 : c1 m n 0 = 0 := by unfold c1; rw [if_pos (by omega)]
  have hn : ∀ i, i < m → 0 ≤ c1 m n (f.β i) * f.B i 0 := fun i hi => Rat.mul_nonneg (c1_nn _) (g.nn i hi)
  have h1 := sumTo_nonneg hn
  refine ⟨by grind, fun h i hi hf => ?_⟩
  have h2 := sumTo_eq_zero hn (by grind) i hi
  have e1 : c1 m n (f.β i) = 1 := by unfold c1; rw [if_neg (by omega)]
  rw [e1] at h2
  grind
theorem bars_of {f : Fr} (g : Good m (1 + n + m + m) (M0 m n A b) f) (h : bel (1 + n + m) (pr m (c1 m n) f) = []) (hz : pr m (c1 m n) f 0 ≠ 0) : Bars m n A b (wt n (pr m (c1 m n) f)) := by
  obtain ⟨h1, h2⟩ := pr_by g.tab
  refine ⟨fun k hk => bel_nil h (by omega) (by omega), fun j hj => ?_, ?_⟩
  · rw [← h2 j hj]
    exact bel_nil h (by omega) (by omega)
  · rw [← h1]
    have := (pr_zero g).1
    grind
/-! ### without the filling columns -/
def wf (first : Nat) (f : Fr) : Nat → Fr
  | 0 => f
  | k + 1 => if first ≤ (wf first f k).β k then (match kept first (fun c => decide ((wf first f k).B k c ≠ 0)) with
      | [] => wf first f k
      | s :: _ => ⟨piv (wf first f k).B k s, pivB (wf first f k).β k s⟩) else wf first f k
structure Flat (m n : Nat) (M : Nat → Row) (f : Fr) : Prop where
  good : Good m (1 + n + m + m) M f
  flat : ∀ i, i < m → 1 + n + m ≤ f.β i → f.B i 0 = 0
theorem Flat.turn {M : Nat → Row} {f : Fr} (F : Flat m n M f) {r s : Nat} (hr : r < m) (hf : 1 + n + m ≤ f.β r) (hs1 : 1 ≤ s) (hs : s < 1 + n + m) (hz : f.B r s ≠ 0) : Flat m n M ⟨piv f.B r s, pivB f.β r s⟩ := by
  have z := F.flat r hr hf
  have e : ∀ i, i < m → piv f.B r s i 0 = f.B i 0 := fun i hi => by
    by_cases q : i = r
    · subst q
      show (if i = i then f.B i 0 / f.B i s else _) = _
      rw [if_pos rfl, z]
      grind
    · show (if i = r then _ else f.B i 0 - f.B r 0 / f.B r s * f.B i s) = _
      rw [if_neg q, z]
      grind
  refine ⟨⟨F.good.tab.piv hr hz, fun i hi => ?_, fun i hi => ?_, fun i hi => ?_⟩, fun i hi h => ?_⟩
  · show 0 ≤ piv f.B r s i 0
    rw [e i hi]
    exact F.good.nn i hi
  · show (if i = r then s else f.β i) < _
    split
    · omega
    · exact F.good.wide i hi
  · show 1 ≤ (if i = r then s else f.β i)
    split
    · exact hs1
    · exact F.good.low i hi
  · show piv f.B r s i 0 = 0
    rw [e i hi]
    by_cases q : i = r
    · rw [q]; exact z
    · have h' : 1 + n + m ≤ (if i = r then s else f.β i) := h
      rw [if_neg q] at h'
      exact F.flat i hi h'
theorem Flat.wf {M : Nat → Row} {f : Fr} (F : Flat m n M f) : ∀ k, k ≤ m → Flat m n M (wf (1 + n + m) f k)
  | 0, _ => F
  | k + 1, h => by
    have G := Flat.wf F k (by omega)
    unfold Mx.wf
    split
    · rename_i hb
      split
      · exact G
      · rename_i s l hk
        obtain ⟨h1, h2, _⟩ := kept_first hk
        exact G.turn (by omega) hb h1.1 h1.2 (of_decide_eq_true h2)
    · exact G
/-! ### the values -/
def told (f : Fr) (c : Nat) : Nat → Rat
  | 0 => 0
  | k + 1 => if f.β k = c then f.B k 0 else told f c k
theorem told_sum {f : Fr} {c : Nat} : ∀ {k : Nat}, (∀ i l, i < k → l < k → f.β i = f.β l → i = l) → told f c k = sumTo k (fun l => if f.β l = c then f.B l 0 else 0)
  | 0, _ => rfl
  | k + 1, hi => by
    show (if f.β k = c then f.B k 0 else told f c k) = sumTo k (fun l => if f.β l = c then f.B l 0 else 0) + (if f.β k = c then f.B k 0 else 0)
    by_cases q : f.β k = c
    · rw [if_pos q, if_pos q, sumTo_zero fun l hl => by
        rw [if_neg]
        intro e
        have := hi l k (by omega) (by omega) (e.trans q.symm)
        omega]
      grind
    · rw [if_neg q, if_neg q, told_sum (k := k) fun i l h1 h2 => hi i l (by omega) (by omega)]
      grind
theorem fits_of {f : Fr} (F : Flat m n (M0 m n A b) f) : Fits m n A b (fun j => told f (1 + j) m) := by
  have inj : ∀ i l, i < m → l < m → f.β i = f.β l → i = l := fun i l hi hl e => F.good.tab.idn.inj hi hl e
  refine ⟨fun j hj => ?_, fun k hk => ?_⟩
  · show 0 ≤ told f (1 + j) m
    rw [told_sum inj]
    exact sumTo_nonneg fun l hl => by
      split
      · exact F.good.nn l hl
      · grind
  · have h := (F.good.tab.fro k hk).told F.good.tab.idn 0
    -- split each part by the kind of its column
    have e1 : sumTo n (fun j => (A k j : Rat) * told f (1 + j) m) = sumTo m (fun l => sumTo n (fun j => (A k j : Rat) * (if f.β l = 1 + j then f.B l 0 else 0))) := by
      rw [sumTo_comm]
      exact sumTo_congr fun j hj => by rw [told_sum inj, ← sumTo_mul]
    have key : ∀ l, l < m → (sg b k : Rat) * (M0 m n A b k (f.β l) * f.B l 0) - sumTo n (fun j => (A k j : Rat) * (if f.β l = 1 + j then f.B l 0 else 0)) = (if f.β l = 1 + n + k then f.B l 0 else 0) := fun l hl => by
      by_cases q1 : 1 ≤ f.β l ∧ f.β l < 1 + n
      · obtain ⟨j, hj⟩ : ∃ j, f.β l = 1 + j := ⟨f.β l - 1, by omega⟩
        rw [if_neg (by omega), hj, M0_x k (by omega), sumTo_one (k := j) (by omega) (fun i _ hi => by rw [if_neg (by omega)]; grind), if_pos rfl]
        have := sg_sq (b := b) k
        grind
      · rw [sumTo_zero (f := fun j => (A k j : Rat) * (if f.β l = 1 + j then f.B l 0 else 0)) fun j hj => by rw [if_neg (by omega)]; grind]
        by_cases q2 : 1 + n ≤ f.β l ∧ f.β l < 1 + n + m
        · obtain ⟨j, hj⟩ : ∃ j, f.β l = 1 + n + j := ⟨f.β l - (1 + n), by omega⟩
          rw [hj, M0_spare k (by omega)]
          by_cases e : k = j
          · subst e
            rw [if_pos rfl, if_pos rfl]
            have := sg_sq (b := b) k
            grind
          · rw [if_neg e, if_neg (by omega)]
            grind
        · rw [if_neg (by omega)]
          by_cases q3 : 1 + n + m ≤ f.β l
          · rw [F.flat l hl q3]
            grind
          · -- column 0 is told by no row
            have z : f.β l = 0 := by omega
            exact absurd (F.good.low l hl) (by omega)
    have e2 : sumTo m (fun l => (sg b k : Rat) * (M0 m n A b k (f.β l) * f.B l 0)) = (sg b k : Rat) * M0 m n A b k 0 := by
      rw [sumTo_mul, ← h]
    have e3 : (sg b k : Rat) * M0 m n A b k 0 = (b k : Rat) := by
      rw [M0_zero]
      have := sg_sq (b := b) k
      grind
    have e4 : sumTo m (fun l => (sg b k : Rat) * (M0 m n A b k (f.β l) * f.B l 0)) - sumTo m (fun l => sumTo n (fun j => (A k j : Rat) * (if f.β l = 1 + j then f.B l 0 else 0))) = sumTo m (fun l => if f.β l = 1 + n + k then f.B l 0 else 0) := by
      rw [← sumTo_congr key]
      have e5 : sumTo m (fun l => (sg b k : Rat) * (M0 m n A b k (f.β l) * f.B l 0) - sumTo n (fun j => (A k j : Rat) * (if f.β l = 1 + j then f.B l 0 else 0))) = sumTo m (fun l => (sg b k : Rat) * (M0 m n A b k (f.β l) * f.B l 0) + -1 * sumTo n (fun j => (A k j : Rat) * (if f.β l = 1 + j then f.B l 0 else 0))) := sumTo_congr fun l _ => by grind
      rw [e5, sumTo_add]
      have e7 : sumTo m (fun l => -1 * sumTo n (fun j => (A k j : Rat) * (if f.β l = 1 + j then f.B l 0 else 0))) = -1 * sumTo m (fun l => sumTo n (fun j => (A k j : Rat) * (if f.β l = 1 + j then f.B l 0 else 0))) := sumTo_mul (-1) _ m
      rw [e7]
      clear e1 e2 e3 e5 e7 key h
      generalize sumTo m (fun l => (sg b k : Rat) * (M0 m n A b k (f.β l) * f.B l 0)) = u
      generalize sumTo m (fun l => sumTo n (fun j => (A k j : Rat) * (if f.β l = 1 + j then f.B l 0 else 0))) = v
      grind
    have h6 : 0 ≤ sumTo m (fun l => if f.β l = 1 + n + k then f.B l 0 else 0) := sumTo_nonneg fun l hl => by
      split
      · exact F.good.nn l hl
      · grind
    show sumTo n (fun j => (A k j : Rat) * told f (1 + j) m) ≤ _
    rw [e2, e3] at e4
    rw [e1]
    clear e1 e2 e3 key h
    generalize sumTo m (fun l => sumTo n (fun j => (A k j : Rat) * (if f.β l = 1 + j then f.B l 0 else 0))) = v at *
    generalize sumTo m (fun l => if f.β l = 1 + n + k then f.B l 0 else 0) = u at *
    grind
end
end Mx
set_option Elab.async false
set_option linter.all false
/-! How large the numbers of a tableau and of its prices are. -/
namespace Mx
def sz (e : Nat) (q : Rat) : Prop := q.den < 2 ^ e ∧ q.num.natAbs < 2 ^ e
theorem sz_of {e : Nat} {q : Rat} {D : Nat} {g : Int} (h0 : 0 < D) (hD : D < 2 ^ e) (hg : g.natAbs < 2 ^ e) (h : q * (D : Rat) = (g : Rat)) : sz e q := by
  obtain ⟨h1, h2⟩ := low_of h0 h
  exact ⟨by omega, by omega⟩
theorem sz.mono {e e' : Nat} {q : Rat} (h : sz e q) (l : e ≤ e') : sz e' q := by
  have := Nat.pow_le_pow_right (show 0 < 2 by omega) l
  exact ⟨Nat.lt_of_lt_of_le h.1 this, Nat.lt_of_lt_of_le h.2 this⟩
theorem sz_int {e : Nat} {i : Int} (h : i.natAbs < 2 ^ e) (he : 1 ≤ e) : sz e (i : Rat) := by
  have := Nat.pow_le_pow_right (show 0 < 2 by omega) he
  exact ⟨by rw [Rat.den_intCast]; omega, by rw [Rat.num_intCast]; exact h⟩
theorem sz_zero {e : Nat} (he : 1 ≤ e) : sz e 0 := sz_int (i := 0) (Nat.two_pow_pos e) he
theorem sz_one {e : Nat} (he : 1 ≤ e) : sz e 1 := sz_int (i := 1) (by have := Nat.pow_le_pow_right (show 0 < 2 by omega) he; show 1 < 2 ^ e; omega) he
theorem cast_mul2 (a b : Nat) : ((a * b : Nat) : Rat) = (a : Rat) * (b : Rat) := Rat.natCast_mul a b
theorem sz_mul {a b : Nat} {p q : Rat} (h : sz a p) (h' : sz b q) : sz (a + b) (p * q) := by
  have e1 := mul_den p
  have e2 := mul_den q
  refine sz_of (D := p.den * q.den) (g := p.num * q.num) (Nat.mul_pos p.den_pos q.den_pos) ?_ ?_ ?_
  · rw [Nat.pow_add]; exact Nat.mul_lt_mul'' h.1 h'.1
  · rw [Nat.pow_add, Int.natAbs_mul]; exact Nat.mul_lt_mul'' h.2 h'.2
  · rw [cast_mul2, Rat.intCast_mul, ← e1, ← e2]
    grind
theorem sz_sub {a b : Nat} {p q : Rat} (h : sz a p) (h' : sz b q) : sz (a + b + 1) (p - q) := by
  have e1 := mul_den p
  have e2 := mul_den q
  have d := Nat.mul_lt_mul'' h.1 h'.1
  have n1 := Nat.mul_lt_mul'' h.2 h'.1
  have n2 := Nat.mul_lt_mul'' h'.2 h.1
  rw [← Nat.pow_add] at d n1 n2
  rw [Nat.add_comm b a] at n2
  have pw : 2 ^ (a + b + 1) = 2 ^ (a + b) + 2 ^ (a + b) := by rw [Nat.pow_succ]; omega
  refine sz_of (D := p.den * q.den) (g := p.num * (q.den : Int) - q.num * (p.den : Int)) (Nat.mul_pos p.den_pos q.den_pos) (by omega) ?_ ?_
  · have h1 : (p.num * (q.den : Int) - q.num * (p.den : Int)).natAbs ≤ (p.num * (q.den : Int)).natAbs + (q.num * (p.den : Int)).natAbs := Int.natAbs_sub_le _ _
    rw [Int.natAbs_mul, Int.natAbs_mul, Int.natAbs_natCast, Int.natAbs_natCast] at h1
    omega
  · rw [cast_mul2, Rat.intCast_sub, Rat.intCast_mul, Rat.intCast_mul, ← e1, ← e2, Rat.intCast_natCast, Rat.intCast_natCast]
    grind
theorem sz_inv {a : Nat} {p : Rat} (h : sz a p) (hp : p ≠ 0) : sz a p⁻¹ := by
  have e1 := mul_den p
  have hn : p.num ≠ 0 := fun z => hp (Rat.num_eq_zero.mp z)
  have hc : (p.num : Rat) ≠ 0 := fun z => hn (Rat.intCast_eq_zero_iff.mp z)
  have hd : (p.den : Rat) ≠ 0 := fun z => p.den_nz (Rat.natCast_eq_zero_iff.mp z)
  refine sz_of (D := p.num.natAbs) (g := if 0 < p.num then (p.den : Int) else -(p.den : Int)) (by omega) h.2 ?_ ?_
  · split
    · rw [Int.natAbs_natCast]; exact h.1
    · rw [Int.natAbs_neg, Int.natAbs_natCast]; exact h.1
  · have e3 : ((p.num.natAbs : Nat) : Rat) = if 0 < p.num then (p.num : Rat) else -(p.num : Rat) := by
      rw [← Rat.intCast_natCast]
      split
      · rw [Int.natAbs_of_nonneg (by omega)]
      · rw [← Rat.intCast_neg]
        rw [show ((p.num.natAbs : Nat) : Int) = -p.num by omega]
    rw [e3]
    have e4 : p⁻¹ * (p.num : Rat) = (p.den : Rat) := by
      rw [← e1]
      grind
    split
    · rw [e4, Rat.intCast_natCast]
    · rw [Rat.intCast_neg, Rat.intCast_natCast, ← e4]
      grind
theorem sz_neg {a : Nat} {p : Rat} (h : sz a p) : sz a (-p) := ⟨by rw [Rat.neg_den]; exact h.1, by rw [Rat.neg_num, Int.natAbs_neg]; exact h.2⟩
/-- the numbers of one column have a common denominator -/
theorem Tab.small {m K : Nat} {M B : Nat → Row} {β : Nat → Nat} {MI : Nat → Nat → Int} (t : Tab m M B β) (hM : ∀ i j, M i j = (MI i j : Rat)) (hK : 0 < K) (hb : ∀ i j, i < m → (MI i j).natAbs ≤ K) (j : Nat) :
    ∃ (D : Nat) (g : Nat → Int), 0 < D ∧ D ≤ bnd m K ∧ ∀ i, i < m → B i j * (D : Rat) = (g i : Rat) ∧ (g i).natAbs ≤ bnd m K := by
  refine solved_small m K ((List.range m).map fun k => ⟨fun l => MI k (β l), MI k j⟩) (fun l => B l j) hK (fun e he => ?_) (fun e he => ?_) (fun v hv i hi => ?_)
  · obtain ⟨k, hk, rfl⟩ := List.mem_map.mp he
    rw [List.mem_range] at hk
    exact ⟨fun l _ => hb k _ hk, hb k _ hk⟩
  · obtain ⟨k, hk, rfl⟩ := List.mem_map.mp he
    rw [List.mem_range] at hk
    show sumTo m (fun l => (MI k (β l) : Rat) * B l j) = (MI k j : Rat)
    rw [← hM k j, (t.fro k hk).told t.idn j]
    exact sumTo_congr fun l _ => by rw [hM]
  · have h : ∀ k, k < m → sumTo m (fun l => M k (β l) * v l) = 0 := fun k hk => by
      have := hv ⟨fun l => MI k (β l), MI k j⟩ (List.mem_map.mpr ⟨k, List.mem_range.mpr hk, rfl⟩)
      rw [← this]
      exact sumTo_congr fun l _ => by rw [hM]
    obtain ⟨c, hc⟩ := t.to i hi
    have e1 : sumTo m (fun l => B i (β l) * v l) = v i := by
      have e : sumTo m (fun l => B i (β l) * v l) = sumTo m (fun l => (if i = l then 1 else 0) * v l) := sumTo_congr fun l hl => by rw [t.idn i hi l hl]
      rw [e]
      exact sumTo_delta' v hi
    have e2 : sumTo m (fun l => B i (β l) * v l) = sumTo m (fun k => c k * sumTo m (fun l => M k (β l) * v l)) := by
      have e : sumTo m (fun l => B i (β l) * v l) = sumTo m (fun l => sumTo m (fun k => c k * M k (β l) * v l)) := sumTo_congr fun l _ => by rw [hc (β l), sumTo_mulr]
      rw [e, sumTo_comm]
      exact sumTo_congr fun k _ => by
        rw [← sumTo_mul]
        exact sumTo_congr fun l _ => by grind
    rw [← e1, e2]
    exact sumTo_zero fun k hk => by rw [h k hk]; grind
theorem bnd_lt : ∀ {m : Nat}, m ≤ 5 → bnd m 14 < 2 ^ 152
  | 0, _ => by decide +kernel
  | 1, _ => by decide +kernel
  | 2, _ => by decide +kernel
  | 3, _ => by decide +kernel
  | 4, _ => by decide +kernel
  | 5, _ => by decide +kernel
  | m + 6, h => absurd h (by omega)
/-- the shape of what is asked -/
structure Small (m n : Nat) (A : Nat → Nat → Int) (b : Nat → Int) : Prop where
  m5 : m ≤ 5
  n6 : n ≤ 6
  a : ∀ i j, i < m → j < n → (A i j).natAbs ≤ 14
  b : ∀ i, i < m → (b i).natAbs ≤ 14
section
variable {m n : Nat} {A : Nat → Nat → Int} {b : Nat → Int}
theorem MI_small (S : Small m n A b) (i j : Nat) (hi : i < m) : (MI m n A b i j).natAbs ≤ 14 := by
  have hb := S.b i hi
  have hs : (sg b i).natAbs = 1 := by rcases sg_two (b := b) i with e | e <;> rw [e] <;> rfl
  unfold MI
  split
  · rw [Int.natAbs_mul, hs]; omega
  · split
    · rw [Int.natAbs_mul, hs]
      have := S.a i (j - 1) hi (by omega)
      omega
    · split
      · split <;> omega
      · split <;> omega
theorem Tab.sz (S : Small m n A b) {B : Nat → Row} {β : Nat → Nat} (t : Tab m (M0 m n A b) B β) {i : Nat} (hi : i < m) (j : Nat) : sz 152 (B i j) := by
  obtain ⟨D, g, h1, h2, h3⟩ := t.small (fun _ _ => rfl) (by omega) (MI_small S) j
  obtain ⟨h4, h5⟩ := h3 i hi
  have := bnd_lt S.m5
  exact sz_of h1 (by omega) (by omega) h4
/-- the prices on the way, after k rows -/
def way (cost : Row) (B : Nat → Row) (β : Nat → Nat) (k : Nat) : Row := fun j => cost j - sumTo k (fun i => cost (β i) * B i j)
theorem way_sz (S : Small m n A b) {B : Nat → Row} {β : Nat → Nat} (t : Tab m (M0 m n A b) B β) {ci : Nat → Int} (hc : ∀ j, ci j = 0 ∨ ci j = 1) {k : Nat} (hk : k ≤ m) (j : Nat) : Mx.sz 156 (way (fun j => (ci j : Rat)) B β k j) := by
  obtain ⟨D, g, h1, h2, h3⟩ := t.small (fun _ _ => rfl) (by omega) (MI_small S) j
  obtain ⟨z, hz, hz2⟩ := sumTo_int (fun i => ci (β i)) g D (fun i => B i j) k fun i hi => (h3 i (by omega)).1
  have hz3 := hz2 1 (bnd m 14) (fun i _ => by rcases hc (β i) with e | e <;> rw [e] <;> decide) (fun i hi => (h3 i (by omega)).2)
  have hb := bnd_lt S.m5
  have h5 : z.natAbs ≤ 5 * 2 ^ 152 := by
    have h6 : k * (1 * bnd m 14) ≤ 5 * bnd m 14 := by rw [Nat.one_mul]; exact Nat.mul_le_mul_right _ (by have := S.m5; omega)
    omega
  have h7 : (ci j * (D : Int)).natAbs ≤ D := by
    rw [Int.natAbs_mul, Int.natAbs_natCast]
    rcases hc j with e | e <;> rw [e] <;> simp
  refine sz_of (D := D) (g := ci j * (D : Int) - z) h1 (by omega) ?_ ?_
  · have := Int.natAbs_sub_le (ci j * (D : Int)) z
    omega
  · show ((ci j : Rat) - sumTo k (fun i => (ci (β i) : Rat) * B i j)) * (D : Rat) = _
    rw [Rat.intCast_sub, Rat.intCast_mul, Rat.intCast_natCast, ← hz]
    grind
end
end Mx
set_option Elab.async false
set_option linter.all false
/-! Shares of a mix: its sums, its bars; corners of the plane that keep some lines. -/
namespace Mx
/-! ### two unknowns -/
abbrev Tri := Int × Int × Int
def sat (l : Tri) (x y : Rat) : Prop := (l.1 : Rat) * x + (l.2.1 : Rat) * y ≤ (l.2.2 : Rat)
def det (p q : Tri) : Int := p.1 * q.2.1 - q.1 * p.2.1
def sgn (i : Int) : Int := if i > 0 then 1 else -1
def lft (p q : Tri) : Int := sgn (det p q) * (p.2.2 * q.2.1 - q.2.2 * p.2.1)
def rgt (p q : Tri) : Int := sgn (det p q) * (p.1 * q.2.2 - q.1 * p.2.2)
def keepsT (L : List Tri) (p q : Tri) : Prop := ∀ l ∈ L, l.1 * lft p q + l.2.1 * rgt p q ≤ l.2.2 * ((det p q).natAbs : Int)
def spot (L : List Tri) (p q : Tri) : Prop := det p q ≠ 0 ∧ keepsT L p q
theorem minr (f g : Tri → Rat) : ∀ {L : List Tri}, (∃ i ∈ L, 0 < g i) → ∃ i ∈ L, 0 < g i ∧ ∀ k ∈ L, 0 < g k → f i / g i ≤ f k / g k
  | [], ⟨i, h, _⟩ => nomatch h
  | l :: L, ⟨i, h, p⟩ => by
    by_cases q : ∃ i ∈ L, 0 < g i
    · obtain ⟨j, h1, h2, h3⟩ := minr f g q
      by_cases z : 0 < g l ∧ f l / g l < f j / g j
      · refine ⟨l, List.mem_cons_self, z.1, fun k hk hp => ?_⟩
        rcases List.mem_cons.mp hk with e | e
        · rw [e]; exact Rat.le_refl
        · have := h3 k e hp
          grind
      · refine ⟨j, List.mem_cons_of_mem _ h1, h2, fun k hk hp => ?_⟩
        rcases List.mem_cons.mp hk with e | e
        · subst e
          grind
        · exact h3 k e hp
    · have e : i = l := by
        rcases List.mem_cons.mp
            h with e | e
        · exact e
        · exact absurd ⟨i, e, p⟩ q
      subst e
      refine ⟨i, List.mem_cons_self, p, fun k hk hp => ?_⟩
      rcases List.mem_cons.mp hk with e | e
      · rw [e]; exact Rat.le_refl
      · exact absurd ⟨k, e, hp⟩ q
/-- one step along a direction, until a line is met -/
theorem step {L : List Tri} {x y : Rat} (u v : Rat) (h : ∀ l ∈ L, sat l x y) (hx : ∃ i ∈ L, 0 < (i.1 : Rat) * u + (i.2.1 : Rat) * v) :
    ∃ i ∈ L, ∃ t : Rat, 0 < (i.1 : Rat) * u + (i.2.1 : Rat) * v ∧ (∀ l ∈ L, sat l (x + t * u) (y + t * v)) ∧ (i.1 : Rat) * (x + t * u) + (i.2.1 : Rat) * (y + t * v) = (i.2.2 : Rat) := by
  obtain ⟨i, hi, hp, hm⟩ := minr (fun l => (l.2.2 : Rat) - ((l.1 : Rat) * x + (l.2.1 : Rat) * y)) (fun l => (l.1 : Rat) * u + (l.2.1 : Rat) * v) hx
  have hp' : 0 < (i.1 : Rat) * u + (i.2.1 : Rat) * v := hp
  refine ⟨i, hi, ((i.2.2 : Rat) - ((i.1 : Rat) * x + (i.2.1 : Rat) * y)) / ((i.1 : Rat) * u + (i.2.1 : Rat) * v), hp', fun l hl => ?_, ?_⟩
  · have hs : (l.1 : Rat) * x + (l.2.1 : Rat) * y ≤ (l.2.2 : Rat) := h l hl
    have hi0 : (i.1 : Rat) * x + (i.2.1 : Rat) * y ≤ (i.2.2 : Rat) := h i hi
    have ht : 0 ≤ ((i.2.2 : Rat) - ((i.1 : Rat) * x + (i.2.1 : Rat) * y)) / ((i.1 : Rat) * u + (i.2.1 : Rat) * v) := by
      rw [Rat.div_def]
      exact Rat.mul_nonneg (by grind) (Rat.le_of_lt (Rat.inv_pos.mpr hp'))
    by_cases q : 0 < (l.1 : Rat) * u + (l.2.1 : Rat) * v
    · have h2 : ((i.2.2 : Rat) - ((i.1 : Rat) * x + (i.2.1 : Rat) * y)) / ((i.1 : Rat) * u + (i.2.1 : Rat) * v) ≤ ((l.2.2 : Rat) - ((l.1 : Rat) * x + (l.2.1 : Rat) * y)) / ((l.1 : Rat) * u + (l.2.1 : Rat) * v) := hm l hl q
      have h3 := Rat.mul_le_mul_of_nonneg_right h2 (Rat.le_of_lt q)
      show (l.1 : Rat) * (x + _ * u) + (l.2.1 : Rat) * (y + _ * v) ≤ _
      generalize ((i.2.2 : Rat) - ((i.1 : Rat) * x + (i.2.1 : Rat) * y)) / ((i.1 : Rat) * u + (i.2.1 : Rat) * v) = t at *
      have h4 : ((l.2.2 : Rat) - ((l.1 : Rat) * x + (l.2.1 : Rat) * y)) / ((l.1 : Rat) * u + (l.2.1 : Rat) * v) * ((l.1 : Rat) * u + (l.2.1 : Rat) * v) = (l.2.2 : Rat) - ((l.1 : Rat) * x + (l.2.1 : Rat) * y) := by
        generalize (l.1 : Rat) * u + (l.2.1 : Rat) * v = w at *
        generalize (l.2.2 : Rat) - ((l.1 : Rat) * x + (l.2.1 : Rat) * y) = z
        grind
      rw [h4] at h3
      grind
    · show (l.1 : Rat) * (x + _ * u) + (l.2.1 : Rat) * (y + _ * v) ≤ _
      generalize ((i.2.2 : Rat) - ((i.1 : Rat) * x + (i.2.1 : Rat) * y)) / ((i.1 : Rat) * u + (i.2.1 : Rat) * v) = t at *
      have h3 := Rat.mul_nonneg ht (show 0 ≤ - ((l.1 : Rat) * u + (l.2.1 : Rat) * v) by grind)
      grind
  · generalize hw : (i.1 : Rat) * u + (i.2.1 : Rat) * v = w at *
    have h4 : (i.1 : Rat) * (x + ((i.2.2 : Rat) - ((i.1 : Rat) * x + (i.2.1 : Rat) * y)) / w * u) + (i.2.1 : Rat) * (y + ((i.2.2 : Rat) - ((i.1 : Rat) * x + (i.2.1 : Rat) * y)) / w * v) = (i.1 : Rat) * x + (i.2.1 : Rat) * y + ((i.2.2 : Rat) - ((i.1 : Rat) * x + (i.2.1 : Rat) * y)) / w * w := by
      rw [← hw]
      grind
    rw [h4]
    generalize (i.1 : Rat) * x + (i.2.1 : Rat) * y = z
    grind
theorem det_swap (p q : Tri) : det q p = -det p q := by unfold det; omega
theorem sgn_neg {i : Int} (h : i ≠ 0) : sgn (-i) = -sgn i := by unfold sgn; split <;> split <;> omega
theorem sgn_abs {i : Int} (h : i ≠ 0) : sgn i * i = (i.natAbs : Int) := by unfold sgn; split <;> omega
theorem sgn_two (i : Int) : sgn i = 1 ∨ sgn i = -1 := by unfold sgn; split <;> simp
/-- a point on two lines -/
theorem spot_at {L : List Tri} {p q : Tri} {x y : Rat} (hd : det p q ≠ 0) (h : ∀ l ∈ L, sat l x y) (h1 : (p.1 : Rat) * x + (p.2.1 : Rat) * y = (p.2.2 : Rat)) (h2 : (q.1 : Rat) * x + (q.2.1 : Rat) * y = (q.2.2 : Rat)) : spot L p q := by
  refine ⟨hd, fun l hl => ?_⟩
  have hn : (0 : Int) < ((det p q).natAbs : Int) := by omega
  have ex : (lft p q : Rat) = (((det p q).natAbs : Int) : Rat) * x := by
    rw [← sgn_abs hd]
    unfold lft
    rw [Rat.intCast_mul, Rat.intCast_mul, Rat.intCast_sub, Rat.intCast_mul, Rat.intCast_mul, ← h1, ← h2]
    unfold det
    rw [Rat.intCast_sub, Rat.intCast_mul, Rat.intCast_mul]
    grind
  have ey : (rgt p q : Rat) = (((det p q).natAbs : Int) : Rat) * y := by
    rw [← sgn_abs hd]
    unfold rgt
    rw [Rat.intCast_mul, Rat.intCast_mul, Rat.intCast_sub, Rat.intCast_mul, Rat.intCast_mul, ← h1, ← h2]
    unfold det
    rw [Rat.intCast_sub, Rat.intCast_mul, Rat.intCast_mul]
    grind
  have hs : (l.1 : Rat) * x + (l.2.1 : Rat) * y ≤ (l.2.2 : Rat) := h l hl
  have hn' : (0 : Rat) ≤ (((det p q).natAbs : Int) : Rat) := Rat.intCast_nonneg.mpr (by omega)
  have h3 := Rat.mul_le_mul_of_nonneg_right hs hn'
  have h4 : ((l.1 * lft p q + l.2.1 * rgt p q : Int) : Rat) ≤ ((l.2.2 * ((det p q).natAbs : Int) : Int) : Rat) := by
    rw [Rat.intCast_add, Rat.intCast_mul, Rat.intCast_mul, Rat.intCast_mul, ex, ey]
    generalize (((det p q).natAbs : Int) : Rat) = D at *
    grind
  exact Rat.intCast_le_intCast.mp h4
theorem spot_to {L : List Tri} {p q : Tri} (h : spot L p q) : ∃ x y : Rat, ∀ l ∈ L, sat l x y := by
  obtain ⟨hd, hk⟩ := h
  have hn : (0 : Rat) < (((det p q).natAbs : Int) : Rat) := Rat.intCast_pos.mpr (by omega)
  refine ⟨(lft p q : Rat) / (((det p q).natAbs : Int) : Rat), (rgt p q : Rat) / (((det p q).natAbs : Int) : Rat), fun l hl => ?_⟩
  have h1 : ((l.1 * lft p q + l.2.1 * rgt p q : Int) : Rat) ≤ ((l.2.2 * ((det p q).natAbs : Int) : Int) : Rat) := Rat.intCast_le_intCast.mpr (hk l hl)
  rw [Rat.intCast_add, Rat.intCast_mul, Rat.intCast_mul, Rat.intCast_mul] at h1
  have h2 := Rat.mul_le_mul_of_nonneg_right h1 (Rat.le_of_lt (Rat.inv_pos.mpr hn))
  show (l.1 : Rat) * _ + (l.2.1 : Rat) * _ ≤ _
  generalize (((det p q).natAbs : Int) : Rat) = D at *
  have hD : D ≠ 0 := by grind
  have e1 : (l.2.2 : Rat) * D * D⁻¹ = (l.2.2 : Rat) := by grind
  rw [e1] at h2
  rw [Rat.div_def, Rat.div_def]
  grind
theorem spot_swap {L : List Tri} {p q : Tri} (h : spot L p q) : spot L q p := by
  obtain ⟨hd, hk⟩ := h
  have e0 := det_swap p q
  have e1 : lft q p = lft p q := by
    unfold lft
    rw [e0, sgn_neg hd]
    rw [Int.neg_mul, ← Int.mul_neg]
    congr 1
    omega
  have e2 : rgt q p = rgt p q := by
    unfold rgt
    rw [e0, sgn_neg hd]
    rw [Int.neg_mul, ← Int.mul_neg]
    congr 1
    omega
  refine ⟨by omega, fun l hl => ?_⟩
  rw [e1, e2, e0, Int.natAbs_neg]
  exact hk l hl
/-- THE RULE: some point is there just if a corner is -/
theorem spot_iff {L : List Tri} (h0 : ((-1, 0, 0) : Tri) ∈ L) (h1 : ((0, -1, 0) : Tri) ∈ L) : (∃ x y : Rat, ∀ l ∈ L, sat l x y) ↔ ∃ (k j : Nat) (hk : k < L.length) (hj : j < k), spot L (L[j]'(by omega)) L[k] := by
  constructor
  · rintro ⟨x, y, h⟩
    obtain ⟨p, hp, t, p1, p2, p3⟩ := step (-1) 0 h ⟨_, h0, by show 0 < ((-1 : Int) : Rat) * -1 + ((0 : Int) : Rat) * 0; exact (by decide +kernel)⟩
    have pa : (p.1 : Rat) < 0 := by grind
    obtain ⟨q, hq, t2, q1, q2, q3⟩ := step (-(p.2.1 : Rat)) (p.1 : Rat) p2 ⟨_, h1, by
      show 0 < ((0 : Int) : Rat) * -(p.2.1 : Rat) + ((-1 : Int) : Rat) * (p.1 : Rat)
      have e : ((-1 : Int) : Rat) = -1 := rfl
      have e2 : ((0 : Int) : Rat) = 0 := rfl
      rw [e, e2]
      grind⟩
    have hd : det p q ≠ 0 := fun z => by
      have h5 : ((det p q : Int) : Rat) = 0 := by rw [z]; rfl
      unfold det at h5
      rw [Rat.intCast_sub, Rat.intCast_mul, Rat.intCast_mul] at h5
      grind
    have sp : spot L p q := spot_at hd q2 (by grind) q3
    obtain ⟨i, hi, ei⟩ := List.mem_iff_getElem.mp hp
    obtain ⟨k, hk, ek⟩ := List.mem_iff_getElem.mp hq
    rcases Nat.lt_trichotomy i k with z | z | z
    · exact ⟨k, i, hk, z, by rw [ei, ek]; exact sp⟩
    · exfalso
      subst z
      rw [ei] at ek
      subst ek
      exact hd (by unfold det; omega)
    · exact ⟨i, k, hi, z, by rw [ei, ek]; exact spot_swap sp⟩
  · rintro ⟨k, j, hk, hj, h⟩
    exact spot_to h
/-! ### mixes -/
section
variable (wide tall : Nat) (W : Nat → Nat → Int) (g : Nat → Int)
/-- the rows that a mix keeps: its wishes, its sum -/
def mA : Nat → Nat → Int := fun k j => if k < wide then W k j else if k = wide then 1 else -1
def mb : Nat → Int := fun k => if k < wide then g k else if k = wide then 1 else -1
structure Mix (x : Row) : Prop where
  nn : ∀ j, j < tall → 0 ≤ x j
  one : sumTo tall x = 1
  row : ∀ k, k < wide → sumTo tall (fun j => (W k j : Rat) * x j) ≤ (g k : Rat)
def z3 (k j : Nat) : Int := if j < tall then W k j else 0
def cuts : List Tri := [(-1, 0, 0), (0, -1, 0), (1, 1, 1)] ++ (if tall < 3 then [(-1, -1, -1)] else []) ++ (if tall < 2 then [(0, 1, 0)] else []) ++ (List.range wide).map fun k => (z3 tall W k 0 - z3 tall W k 2, z3 tall W k 1 - z3 tall W k 2, g k - z3 tall W k 2)
end
section
variable {wide tall : Nat} {W : Nat → Nat → Int} {g : Nat → Int}
theorem mix_fits {x : Row} : Fits (wide + 2) tall (mA wide W) (mb wide g) x ↔ Mix wide tall W g x := by
  have e1 : ∀ x : Row, sumTo tall (fun j => (mA wide W wide j : Rat) * x j) = sumTo tall x := fun x => sumTo_congr fun j _ => by
    have : mA wide W wide j = 1 := by unfold mA; rw [if_neg (by omega), if_pos rfl]
    rw [this, show ((1 : Int) : Rat) = 1 from rfl]; grind
  have e2 : ∀ x : Row, sumTo tall (fun j => (mA wide W (wide + 1) j : Rat) * x j) = -1 * sumTo tall x := fun x => by
    rw [← sumTo_mul]
    exact sumTo_congr fun j _ => by
      have : mA wide W (wide + 1) j = -1 := by unfold mA; rw [if_neg (by omega), if_neg (by omega)]
      rw [this, show ((-1 : Int) : Rat) = -1 from rfl]
  have e3 : mb wide g wide = 1 := by unfold mb; rw [if_neg (by omega), if_pos rfl]
  have e4 : mb wide g (wide + 1) = -1 := by unfold mb; rw [if_neg (by omega), if_neg (by omega)]
  have e5 : ∀ k, k < wide → mA wide W k = W k := fun k hk => by funext j; unfold mA; rw [if_pos hk]
  have e6 : ∀ k, k < wide → mb wide g k = g k := fun k hk => by unfold mb; rw [if_pos hk]
  constructor
  · intro h
    have h1 := h.row wide (by omega)
    have h2 := h.row (wide + 1) (by omega)
    rw [e1, e3, show ((1 : Int) : Rat) = 1 from rfl] at h1
    rw [e2, e4, show ((-1 : Int) : Rat) = -1 from rfl] at h2
    refine ⟨h.nn, by grind, fun k hk => ?_⟩
    have h3 := h.row k (by omega)
    rw [e5 k hk, e6 k hk] at h3
    exact h3
  · intro h
    refine ⟨h.nn, fun k hk => ?_⟩
    by_cases q : k < wide
    · rw [e5 k q, e6 k q]; exact h.row k q
    · by_cases q2 : k = wide
      · rw [q2, e1, e3, h.one]; exact Rat.le_refl
      · rw [show k = wide + 1 by omega, e2, e4, h.one]
        exact (by decide +kernel)
/-- what weights that bar say of the rows -/
theorem mix_bars {w : Row} (h : Bars (wide + 2) tall (mA wide W) (mb wide g) w) : (∀ k, k < wide → 0 ≤ w k) ∧ ∀ j, j < tall → 0 < sumTo wide (fun k => w k * ((W k j : Rat) - (g k : Rat))) := by
  refine ⟨fun k hk => h.nn k (by omega), fun j hj => ?_⟩
  have h1 := h.col j hj
  have h2 := h.neg
  have e1 : sumTo (wide + 2) (fun k => w k * (mA wide W k j : Rat)) = sumTo wide (fun k => w k * (W k j : Rat)) + w wide * 1 + w (wide + 1) * -1 := by
    show sumTo wide (fun k => w k * (mA wide W k j : Rat)) + w wide * (mA wide W wide j : Rat) + w (wide + 1) * (mA wide W (wide + 1) j : Rat) = _
    rw [show mA wide W wide j = 1 by unfold mA; rw [if_neg (by omega), if_pos rfl], show mA wide W (wide + 1) j = -1 by unfold mA; rw [if_neg (by omega), if_neg (by omega)], show ((1 : Int) : Rat) = 1 from rfl, show ((-1 : Int) : Rat) = -1 from rfl,
      sumTo_congr (g := fun k => w k * (W k j : Rat)) fun k hk => by unfold mA; rw [if_pos hk]]
  have e2 : sumTo (wide + 2) (fun k => w k * (mb wide g k : Rat)) = sumTo wide (fun k => w k * (g k : Rat)) + w wide * 1 + w (wide + 1) * -1 := by
    show sumTo wide (fun k => w k * (mb wide g k : Rat)) + w wide * (mb wide g wide : Rat) + w (wide + 1) * (mb wide g (wide + 1) : Rat) = _
    rw [show mb wide g wide = 1 by unfold mb; rw [if_neg (by omega), if_pos rfl], show mb wide g (wide + 1) = -1 by unfold mb; rw [if_neg (by omega), if_neg (by omega)], show ((1 : Int) : Rat) = 1 from rfl, show ((-1 : Int) : Rat) = -1 from rfl,
      sumTo_congr (g := fun k => w k * (g k : Rat)) fun k hk => by unfold mb; rw [if_pos hk]]
  rw [e1] at h1
  rw [e2] at h2
  have e3 : sumTo wide (fun k => w k * ((W k j : Rat) - (g k : Rat))) = sumTo wide (fun k => w k * (W k j : Rat) + -1 * (w k * (g k : Rat))) := sumTo_congr fun k _ => by grind
  rw [e3, sumTo_add, sumTo_mul]
  grind
theorem cuts0 : ((-1, 0, 0) : Tri) ∈ cuts wide tall W g := by unfold cuts; simp
theorem cuts1 : ((0, -1, 0) : Tri) ∈ cuts wide tall W g := by unfold cuts; simp
theorem cast_sub2 (a b : Int) : ((a - b : Int) : Rat) = (a : Rat) - (b : Rat) := Rat.intCast_sub a b
theorem mix_cuts (h1 : 1 ≤ tall) (h3 : tall ≤ 3) : (∃ x, Mix wide tall W g x) ↔ ∃ x y : Rat, ∀ l ∈ cuts wide tall W g, sat l x y := by
  have c0 : ((0 : Int) : Rat) = 0 := rfl
  have c1 : ((1 : Int) : Rat) = 1 := rfl
  have cm : ((-1 : Int) : Rat) = -1 := rfl
  have s0 : ∀ f : Row, sumTo 1 f = f 0 := fun f => by show (0 : Rat) + f 0 = _; grind
  have s1 : ∀ f : Row, sumTo 2 f = f 0 + f 1 := fun f => by show (0 : Rat) + f 0 + f 1 = _; grind
  have s2 : ∀ f : Row, sumTo 3 f = f 0 + f 1 + f 2 := fun f => by show (0 : Rat) + f 0 + f 1 + f 2 = _; grind
  have ht : tall = 1 ∨ tall = 2 ∨ tall = 3 := by omega
  constructor
  · rintro ⟨x, hx⟩
    obtain ⟨n, o, r⟩ := hx
    refine ⟨x 0, if tall < 2 then 0 else x 1, fun l hl => ?_⟩
    unfold cuts at hl
    rcases ht with e | e | e <;> subst e
    · have n0 := n 0 (by omega)
      rw [s0] at o
      simp only [show (1 : Nat) < 3 by omega, show (1 : Nat) < 2 by omega, if_true, List.mem_append, List.mem_cons, List.mem_map, List.mem_range, List.not_mem_nil, or_false] at hl
      rw [if_pos (by omega)]
      rcases hl with ((((e | e | e) | e) | e) | ⟨k, hk, e⟩)
      all_goals subst e
      · show ((-1 : Int) : Rat) * x 0 + ((0 : Int) : Rat) * 0 ≤ ((0 : Int) : Rat); rw [c0, cm]; grind
      · show ((0 : Int) : Rat) * x 0 + ((-1 : Int) : Rat) * 0 ≤ ((0 : Int) : Rat); rw [c0, cm]; grind
      · show ((1 : Int) : Rat) * x 0 + ((1 : Int) : Rat) * 0 ≤ ((1 : Int) : Rat); rw [c1]; grind
      · show ((-1 : Int) : Rat) * x 0 + ((-1 : Int) : Rat) * 0 ≤ ((-1 : Int) : Rat); rw [cm]; grind
      · show ((0 : Int) : Rat) * x 0 + ((1 : Int) : Rat) * 0 ≤ ((0 : Int) : Rat); rw [c0, c1]; grind
      · have h := r k hk
        rw [s0] at h
        show ((z3 1 W k 0 - z3 1 W k 2 : Int) : Rat) * x 0 + ((z3 1 W k 1 - z3 1 W k 2 : Int) : Rat) * 0 ≤ ((g k - z3 1 W k 2 : Int) : Rat)
        rw [cast_sub2, cast_sub2, cast_sub2, show z3 1 W k 2 = 0 from rfl, show z3 1 W k 0 = W k 0 from rfl, c0]
        grind
    · have n0 := n 0 (by omega)
      have n1 := n 1 (by omega)
      rw [s1] at o
      simp only [show (2 : Nat) < 3 by omega, show ¬ (2 : Nat) < 2 by omega, if_true, if_false, List.mem_append, List.mem_cons, List.mem_map, List.mem_range, List.not_mem_nil, or_false] at hl
      rw [if_neg (by omega)]
      rcases hl with (((e | e | e) | e) | ⟨k, hk, e⟩)
      all_goals subst e
      · show ((-1 : Int) : Rat) * x 0 + ((0 : Int) : Rat) * x 1 ≤ ((0 : Int) : Rat); rw [c0, cm]; grind
      · show ((0 : Int) : Rat) * x 0 + ((-1 : Int) : Rat) * x 1 ≤ ((0 : Int) : Rat); rw [c0, cm]; grind
      · show ((1 : Int) : Rat) * x 0 + ((1 : Int) : Rat) * x 1 ≤ ((1 : Int) : Rat); rw [c1]; grind
      · show ((-1 : Int) : Rat) * x 0 + ((-1 : Int) : Rat) * x 1 ≤ ((-1 : Int) : Rat); rw [cm]; grind
      · have h := r k hk
        rw [s1] at h
        show ((z3 2 W k 0 - z3 2 W k 2 : Int) : Rat) * x 0 + ((z3 2 W k 1 - z3 2 W k 2 : Int) : Rat) * x 1 ≤ ((g k - z3 2 W k 2 : Int) : Rat)
        rw [cast_sub2, cast_sub2, cast_sub2, show z3 2 W k 2 = 0 from rfl, show z3 2 W k 0 = W k 0 from rfl, show z3 2 W k 1 = W k 1 from rfl, c0]
        grind
    · have n0 := n 0 (by omega)
      have n1 := n 1 (by omega)
      have n2 := n 2 (by omega)
      rw [s2] at o
      simp only [show ¬ (3 : Nat) < 3 by omega, show ¬ (3 : Nat) < 2 by omega, if_false, List.mem_append, List.mem_cons, List.mem_map, List.mem_range, List.not_mem_nil, or_false] at hl
      rw [if_neg (by omega)]
      rcases hl with ((e | e | e) | ⟨k, hk, e⟩)
      all_goals subst e
      · show ((-1 : Int) : Rat) * x 0 + ((0 : Int) : Rat) * x 1 ≤ ((0 : Int) : Rat); rw [c0, cm]; grind
      · show ((0 : Int) : Rat) * x 0 + ((-1 : Int) : Rat) * x 1 ≤ ((0 : Int) : Rat); rw [c0, cm]; grind
      · show ((1 : Int) : Rat) * x 0 + ((1 : Int) : Rat) * x 1 ≤ ((1 : Int) : Rat); rw [c1]; grind
      · have h := r k hk
        rw [s2] at h
        show ((z3 3 W k 0 - z3 3 W k 2 : Int) : Rat) * x 0 + ((z3 3 W k 1 - z3 3 W k 2 : Int) : Rat) * x 1 ≤ ((g k - z3 3 W k 2 : Int) : Rat)
        rw [cast_sub2, cast_sub2, cast_sub2, show z3 3 W k 2 = W k 2 from rfl, show z3 3 W k 0 = W k 0 from rfl, show z3 3 W k 1 = W k 1 from rfl]
        have hx2 : x 2 = 1 - x 0 - x 1 := by grind
        rw [hx2] at h
        grind
  · rintro ⟨x, y, h⟩
    have a0 : ((-1 : Int) : Rat) * x + ((0 : Int) : Rat) * y ≤ ((0 : Int) : Rat) := h (-1, 0, 0) cuts0
    have a1 : ((0 : Int) : Rat) * x + ((-1 : Int) : Rat) * y ≤ ((0 : Int) : Rat) := h (0, -1, 0) cuts1
    have a2 : ((1 : Int) : Rat) * x + ((1 : Int) : Rat) * y ≤ ((1 : Int) : Rat) := h (1, 1, 1) (by unfold cuts; simp)
    have ak : ∀ k, k < wide → ((z3 tall W k 0 - z3 tall W k 2 : Int) : Rat) * x + ((z3 tall W k 1 - z3 tall W k 2 : Int) : Rat) * y ≤ ((g k - z3 tall W k 2 : Int) : Rat) := fun k hk => h (z3 tall W k 0 - z3 tall W k 2, z3 tall W k 1 - z3 tall W k 2, g k - z3 tall W k 2) (by
      unfold cuts
      exact List.mem_append_right _ (List.mem_map.mpr ⟨k, List.mem_range.mpr hk, rfl⟩))
    rw [c0, cm] at a0 a1
    rw [c1] at a2
    refine ⟨fun j => if j = 0 then x else if j = 1 then y else 1 - x - y, ?_⟩
    rcases ht with e | e | e <;> subst e
    · have a3 : ((-1 : Int) : Rat) * x + ((-1 : Int) : Rat) * y ≤ ((-1 : Int) : Rat) := h (-1, -1, -1) (by unfold cuts; simp)
      have a4 : ((0 : Int) : Rat) * x + ((1 : Int) : Rat) * y ≤ ((0 : Int) : Rat) := h (0, 1, 0) (by unfold cuts; simp)
      rw [cm] at a3
      rw [c0, c1] at a4
      refine ⟨fun j hj => ?_, ?_, fun k hk => ?_⟩
      · obtain rfl : j = 0 := by omega
        show 0 ≤ x
        grind
      · rw [s0]
        show x = 1
        grind
      · rw [s0]
        show (W k 0 : Rat) * x ≤ _
        have := ak k hk
        rw [cast_sub2, cast_sub2, cast_sub2, show z3 1 W k 2 = 0 from rfl, show z3 1 W k 1 = 0 from rfl, show z3 1 W k 0 = W k 0 from rfl, c0] at this
        grind
    · have a3 : ((-1 : Int) : Rat) * x + ((-1 : Int) : Rat) * y ≤ ((-1 : Int) : Rat) := h (-1, -1, -1) (by unfold cuts; simp)
      rw [cm] at a3
      refine ⟨fun j hj => ?_, ?_, fun k hk => ?_⟩
      · rcases (show j = 0 ∨ j = 1 by omega) with e | e <;> subst e
        · show 0 ≤ x; grind
        · show 0 ≤ y; grind
      · rw [s1]
        show x + y = 1
        grind
      · rw [s1]
        show (W k 0 : Rat) * x + (W k 1 : Rat) * y ≤ _
        have := ak k hk
        rw [cast_sub2, cast_sub2, cast_sub2, show z3 2 W k 2 = 0 from rfl, show z3 2 W k 1 = W k 1 from rfl, show z3 2 W k 0 = W k 0 from rfl, c0] at this
        grind
    · refine ⟨fun j hj => ?_, ?_, fun k hk => ?_⟩
      · rcases (show j = 0 ∨ j = 1 ∨ j = 2 by omega) with e | e | e <;> subst e
        · show 0 ≤ x; grind
        · show 0 ≤ y; grind
        · show 0 ≤ 1 - x - y; grind
      · rw [s2]
        show x + y + (1 - x - y) = 1
        grind
      · rw [s2]
        show (W k 0 : Rat) * x + (W k 1 : Rat) * y + (W k 2 : Rat) * (1 - x - y) ≤ _
        have := ak k hk
        rw [cast_sub2, cast_sub2, cast_sub2, show z3 3 W k 2 = W k 2 from rfl, show z3 3 W k 1 = W k 1 from rfl, show z3 3 W k 0 = W k 0 from rfl] at this
        grind
end
end Mx
set_option Elab.async false
set_option linter.all false
set_option maxRecDepth 100000
set_option maxHeartbeats 1200000
/-! Data without a heap: what a value is told by; readings over data. -/
namespace Dl
open PySem L2

/-! ### data -/
inductive D where
  | v (x : V)
  | lst (ds : List D)
  | rd (ds : List D)
  | tup (ds : List D)
  | obj (C : Addr) (ns : List Str) (ds : List D)
  | dct (ks : List Key) (ds : List D)
abbrev D.int (i : Int) : D := .v (.int i)
abbrev D.bl (b : Bool) : D := .v (.bl b)
abbrev D.str (x : Str) : D := .v (.str x)
abbrev D.non : D := .v .non

mutual
/-- the datum d is told by the value y over the heap H -/
def Rp (K : PySem.W.Frag) (H : Hp) : D → V → Prop
  | .v x, y => y = x
  | .lst ds, y => ∃ a xs, y = .ref a ∧ H a = some (.lst xs) ∧ RpL K H ds xs
  | .rd ds, y => ∃ a xs, y = .ref a ∧ SqL K H a xs ∧ RpL K H ds xs
  | .tup ds, y => ∃ a xs, y = .ref a ∧ SqT K H a xs ∧ RpL K H ds xs
  | .obj C ns ds, y => ∃ a dx gs, y = .ref a ∧ H a = some (.ins C dx gs) ∧ gs.map (·.1) = ns ∧ RpL K H ds (gs.map (·.2))
  | .dct ks ds, y => ∃ a gs, y = .ref a ∧ H a = some (.dK gs) ∧ gs.map (·.1) = ks ∧ RpL K H ds (gs.map (·.2))
def RpL (K : PySem.W.Frag) (H : Hp) : List D → List V → Prop
  | [], xs => xs = []
  | d :: ds, xs => ∃ y ys, xs = y :: ys ∧ Rp K H d y ∧ RpL K H ds ys
end

section
variable {K : PySem.W.Frag} {H H' : Hp}
theorem sameT (e : Same H H') {a : Addr} {xs : List V} (h : SqT K H a xs) : SqT K H' a xs := by
  rcases h with (h | ⟨o,
      h⟩) | h
  · exact .inl (.inl (e a _ h))
  · exact .inl (.inr ⟨o, e a _ h⟩)
  · exact .inr h
mutual
theorem Rp.mono (e : Same H H') : ∀ {d : D} {y : V}, Rp K H d y → Rp K H' d y
  | .v x, y, h => h
  | .lst ds, y, h => by
    obtain ⟨a, xs, h1, h2, h3⟩ := h
    exact ⟨a, xs, h1, e _ _ h2, RpL.mono e h3⟩
  | .rd ds, y, h => by
    obtain ⟨a, xs, h1, h2, h3⟩ := h
    exact ⟨a, xs, h1, e.seq h2, RpL.mono e h3⟩
  | .tup ds, y, h => by
    obtain ⟨a, xs, h1, h2, h3⟩ := h
    exact ⟨a, xs, h1, sameT e h2, RpL.mono e h3⟩
  | .obj C ns ds, y, h => by
    obtain ⟨a, dx, gs, h1, h2, h3, h4⟩ := h
    exact ⟨a, dx, gs, h1, e _ _ h2, h3, RpL.mono e h4⟩
  | .dct ks ds, y, h => by
    obtain ⟨a, gs, h1, h2, h3, h4⟩ := h
    exact ⟨a, gs, h1, e _ _ h2, h3, RpL.mono e h4⟩
theorem RpL.mono (e : Same H H') : ∀ {ds : List D} {xs : List V}, RpL K H ds xs → RpL K H' ds xs
  | [], xs, h => h
  | d :: ds, xs, h => by
    obtain ⟨y, ys, h1, h2, h3⟩ := h
    exact ⟨y, ys, h1, Rp.mono e h2, RpL.mono e h3⟩
end
theorem RpL.length : ∀ {ds : List D} {xs : List V}, RpL K H ds xs → xs.length = ds.length
  | [], xs, h => by rw [show xs = [] from h]; rfl
  | d :: ds, xs, h => by
    obtain ⟨y, ys, rfl, _, h3⟩ := h
    rw [List.length_cons, List.length_cons, RpL.length h3]
theorem RpL.get : ∀ {ds : List D} {xs : List V} {i : Nat} {d : D}, RpL K H ds xs → ds[i]? = some d → ∃ y, xs[i]? = some y ∧ Rp K H d y
  | [], xs, i, d, h, e => by simp at e
  | d :: ds, xs, 0, d', h, e => by
    obtain ⟨y, ys, rfl, h2, h3⟩ := h
    obtain rfl : d = d' := by simpa using e
    exact ⟨y, rfl, h2⟩
  | d :: ds, xs, i + 1, d', h, e => by
    obtain ⟨y, ys, rfl, h2, h3⟩ := h
    obtain ⟨z, e2, h4⟩ := RpL.get (i := i) (d := d') h3 (by simpa using e)
    exact ⟨z, by simpa using e2, h4⟩
theorem RpL.app : ∀ {ds es : List D} {xs ys : List V}, RpL K H ds xs → RpL K H es ys → RpL K H (ds ++ es) (xs ++ ys)
  | [], es, xs, ys, h, h' => by rw [show xs = [] from h]; exact h'
  | d :: ds, es, xs, ys, h, h' => by
    obtain ⟨y, zs, rfl, h2, h3⟩ := h
    exact ⟨y, zs ++ ys, rfl, h2, RpL.app h3 h'⟩
theorem RpL.one {d : D} {y : V} (h : Rp K H d y) : RpL K H [d] [y] := ⟨y, [], rfl, h, rfl⟩
theorem RpL.drop : ∀ {ds : List D} {xs : List V} (n : Nat), RpL K H ds xs → RpL K H (ds.drop n) (xs.drop n)
  | ds, xs, 0, h => h
  | [], xs, n + 1, h => by rw [show xs = [] from h]; exact rfl
  | d :: ds, xs, n + 1, h => by
    obtain ⟨y, ys, rfl, h2, h3⟩ := h
    exact RpL.drop n h3
theorem RpL.take : ∀ {ds : List D} {xs : List V} (n : Nat), RpL K H ds xs → RpL K H (ds.take n) (xs.take n)
  | ds, xs, 0, h => by rw [List.take_zero, List.take_zero]; exact rfl
  | [], xs, n + 1, h => by rw [show xs = [] from h]; exact rfl
  | d :: ds, xs, n + 1, h => by
    obtain ⟨y, ys, rfl, h2, h3⟩ := h
    exact ⟨y, ys.take n, rfl, h2, RpL.take n h3⟩
theorem RpL.rep {ds : List D} {xs : List V} (h : RpL K H ds xs) : ∀ n : Nat, RpL K H (List.replicate n ds).flatten (List.replicate n xs).flatten
  | 0 => rfl
  | n + 1 => by
    rw [List.replicate_succ, List.replicate_succ, List.flatten_cons,
        List.flatten_cons]
    exact h.app (RpL.rep h n)
theorem RpL.eraseIdx : ∀ {ds : List D} {xs : List V} (n : Nat), RpL K H ds xs → RpL K H (ds.eraseIdx n) (xs.eraseIdx n)
  | [], xs, n, h => by rw [show xs = [] from h]; cases n <;> exact rfl
  | d :: ds, xs, 0, h => by
    obtain ⟨y, ys, rfl, h2, h3⟩ := h
    exact h3
  | d :: ds, xs, n + 1, h => by
    obtain ⟨y, ys, rfl, h2, h3⟩ := h
    exact ⟨y, _, rfl, h2, RpL.eraseIdx n h3⟩
theorem RpL.set {e : D} {z : V} (hz : Rp K H e z) : ∀ {ds : List D} {xs : List V} (n : Nat), RpL K H ds xs → RpL K H (ds.set n e) (xs.set n z)
  | [], xs, n, h => by rw [show xs = [] from h]; exact rfl
  | d :: ds, xs, 0, h => by
    obtain ⟨y, ys, rfl, h2, h3⟩ := h
    exact ⟨z, ys, rfl, hz, h3⟩
  | d :: ds, xs, n + 1, h => by
    obtain ⟨y, ys, rfl, h2, h3⟩ := h
    exact ⟨y, _, rfl, h2, RpL.set hz n h3⟩
/-- ints told -/
theorem RpL.ints : ∀ {ns : List Int} {xs : List V}, RpL K H (ns.map D.int) xs ↔ xs = ns.map V.int
  | [], xs => Iff.rfl
  | n :: ns, xs => by
    constructor
    · rintro ⟨y, ys, rfl, h2, h3⟩
      rw [List.map_cons, ← RpL.ints.mp h3, show y = V.int n from h2]
    · rintro rfl
      exact ⟨V.int n, _, rfl, rfl, RpL.ints.mpr rfl⟩
theorem RpL.vs : ∀ {ns : List V} {xs : List V}, RpL K H (ns.map D.v) xs ↔ xs = ns
  | [], xs => Iff.rfl
  | n :: ns, xs => by
    constructor
    · rintro ⟨y, ys, rfl, h2, h3⟩
      rw [← RpL.vs.mp h3, show y = n from h2]
    · rintro rfl
      exact ⟨n, _, rfl, rfl, RpL.vs.mpr rfl⟩
end

/-! ### slots -/
inductive Sl where
  | any
  | dat (d : D)
  | own (ds : List D)
abbrev Env := List Sl
/-- a slot's own list stands at a -/
def Own (ρ : Env) (σ : L2.St) (a : Addr) : Prop := ∃ (i : Nat) (ds : List D), ρ[i]? = some (.own ds) ∧ σ[i]? = some (some (.ref a))
def SlOk (K : PySem.W.Frag) (Hk H2 : Hp) : Sl → Option V → Prop
  | .any, _ => True
  | .dat d, o => ∃ y, o = some y ∧ Rp K Hk d y
  | .own ds, o => ∃ p xs, o = some (.ref p) ∧ Hk p = none ∧ H2 p = some (.lst xs) ∧ RpL K Hk ds xs
structure At (K : PySem.W.Frag) (ρ : Env) (σ : L2.St) (Hk H2 : Hp) : Prop where
  sub : Same Hk H2
  len : ρ.length = σ.length
  sl : ∀ (i : Nat) s o, ρ[i]? = some s → σ[i]? = some o → SlOk K Hk H2 s o
  ds : ∀ (i j : Nat) (p : Addr) (ds es : List D), ρ[i]? = some (.own ds) → σ[i]? = some (some (.ref p)) → ρ[j]? = some (.own es) → σ[j]? = some (some (.ref p)) → i = j
/-- from one state to a later one; O, O': whose lists may be written -/
structure Tr (O : Addr → Prop) (Hk H2 : Hp) (O' : Addr → Prop) (Hk' H2' : Hp) : Prop where
  ex : Same Hk Hk'
  fro : ∀ a o, H2 a = some o → ¬ O a → H2' a = some o
  new : ∀ a, Hk' a ≠ none → Hk a ≠ none ∨ H2 a = none ∨ O a
  own : ∀ a, O' a → O a ∨ H2 a = none
theorem Tr.refl {O : Addr → Prop} {Hk H2 : Hp} : Tr O Hk H2 O Hk H2 := ⟨Same.refl _, fun _ _ h _ => h, fun _ h => .inl h, fun _ h => .inl h⟩
theorem Tr.trans {O O' O'' : Addr → Prop} {Hk H2 Hk' H2' Hk'' H2'' : Hp} (t : Tr O Hk H2 O' Hk' H2') (u : Tr O' Hk' H2' O'' Hk'' H2'') : Tr O Hk H2 O'' Hk'' H2'' := by
  have back : ∀ a, H2' a = none → H2 a = none ∨ O a := fun a h => by
    by_cases q : O a
    · exact .inr q
    · refine .inl ?_
      cases e : H2 a with
      | none => rfl
      | some o =>
        have h1 := t.fro a o e q
        rw [h] at h1
        exact nomatch h1
  refine ⟨t.ex.trans u.ex, fun a o h q => ?_, fun a h => ?_, fun a h => ?_⟩
  · refine u.fro a o (t.fro a o h q) fun z => ?_
    rcases t.own a z with z | z
    · exact q z
    · rw [h] at z; exact nomatch z
  · rcases u.new a h with z | z | z
    · exact t.new a z
    · rcases back a z with y | y
      · exact .inr (.inl y)
      · exact .inr (.inr y)
    · rcases t.own a z with y | y
      · exact .inr (.inr y)
      · exact .inr (.inl y)
  · rcases u.own a h with z | z
    · exact t.own a z
    · rcases back a z with y | y
      · exact .inr y
      · exact .inl y
section
variable {K : PySem.W.Frag} {ρ : Env} {σ : L2.St} {Hk H2 Hk' H2' : Hp}
theorem At.own_at (A : At K ρ σ Hk H2) {a : Addr} (h : Own ρ σ a) : Hk a = none ∧ ∃ xs, H2 a = some (.lst xs) := by
  obtain ⟨i, ds, h1, h2⟩ := h
  obtain ⟨p, xs, e, n, q, _⟩ := A.sl i _ _ h1 h2
  cases e
  exact ⟨n, xs, q⟩
theorem At.get (A : At K ρ σ Hk H2) {i : Nat} {d : D} (h : ρ[i]? = some (.dat d)) : ∃ y, σ[i]? = some (some y) ∧ Rp K Hk d y := by
  have hi : i < σ.length := by
    rw [← A.len]
    exact (List.getElem?_eq_some_iff.mp
        h).1
  obtain ⟨y, e, r⟩ := A.sl i _ _ h (List.getElem?_eq_getElem hi)
  exact ⟨y, by rw [List.getElem?_eq_getElem hi, e], r⟩
theorem At.getOwn (A : At K ρ σ Hk H2) {i : Nat} {ds : List D} (h : ρ[i]? = some (.own ds)) : ∃ p xs, σ[i]? = some (some (.ref p)) ∧ Hk p = none ∧ H2 p = some (.lst xs) ∧ RpL K Hk ds xs := by
  have hi : i < σ.length := by
    rw [← A.len]
    exact (List.getElem?_eq_some_iff.mp
        h).1
  obtain ⟨p, xs, e, r⟩ := A.sl i _ _ h (List.getElem?_eq_getElem hi)
  exact ⟨p, xs, by rw [List.getElem?_eq_getElem hi, e], r⟩
/-- the heaps grow; the slots' own lists stay as they are -/
theorem At.grow (A : At K ρ σ Hk H2) (e : Same Hk Hk') (s : Same Hk' H2') (k : ∀ a o, H2 a = some o → H2' a = some o) (n : ∀ a, Hk' a ≠ none → Hk a ≠ none ∨ H2 a = none) : At K ρ σ Hk' H2' := by
  refine ⟨s, A.len, fun i s o h1 h2 => ?_, A.ds⟩
  have h := A.sl i s o h1 h2
  cases s with
  | any => trivial
  | dat d =>
    obtain ⟨y, e1, r⟩ := h
    exact ⟨y, e1, r.mono e⟩
  | own ds =>
    obtain ⟨p, xs, e1, hn, hp, r⟩ := h
    refine ⟨p, xs, e1, ?_, k _ _ hp, r.mono e⟩
    cases q : Hk' p with
    | none => rfl
    | some o =>
      rcases n p (by rw [q]; exact fun z => nomatch z) with z | z
      · exact absurd hn z
      · rw [hp] at z; exact nomatch z
/-- a new object is laid and known -/
theorem At.laid (A : At K ρ σ Hk H2) {p : Addr} (o : HO) (hp : H2 p = none) : At K ρ σ (upd Hk p o) (upd H2 p o) ∧ Tr (Own ρ σ) Hk H2 (Own ρ σ) (upd Hk p o) (upd H2 p o) ∧ Same Hk (upd Hk p o) := by
  have hk : Hk p = none := by
    cases q : Hk p with
    | none => rfl
    | some u => rw [A.sub p u q] at hp; exact nomatch hp
  have e1 : Same Hk (upd Hk p o) := fun a u h => by rw [upd_ne (ne_of_none h hk)]; exact h
  have k1 : ∀ a u, H2 a = some u → upd H2 p o a = some u := fun a u h => by rw [upd_ne (ne_of_none h hp)]; exact h
  have s1 : Same (upd Hk p o) (upd H2 p o) := fun a u h => by
    by_cases q : a = p
    · subst q; rw [upd_same] at h ⊢; exact h
    · rw [upd_ne q] at h ⊢; exact A.sub a u h
  have n1 : ∀ a, upd Hk p o a ≠ none → Hk a ≠ none ∨ H2 a = none := fun a h => by
    by_cases q : a = p
    · subst q; exact .inr hp
    · rw [upd_ne q] at h; exact .inl h
  exact ⟨A.grow e1 s1 k1 n1, ⟨e1, fun a u h _ => k1 a u h, fun a h => (n1 a h).imp id .inl, fun a h => .inl h⟩, e1⟩
/-- .. laid, not known -/
theorem At.hid (A : At K ρ σ Hk H2) {p : Addr} (o : HO) (hp : H2 p = none) : At K ρ σ Hk (upd H2 p o) := by
  have k1 : ∀ a u, H2 a = some u → upd H2 p o a = some u := fun a u h => by rw [upd_ne (ne_of_none h hp)]; exact h
  exact A.grow (Same.refl _) (fun a u h => k1 a u (A.sub a u h)) k1 fun a h => .inl h
theorem At.free (A : At K ρ σ Hk H2) {p : Addr} (hp : H2 p = none) : Hk p = none := by
  cases q : Hk p with
  | none => rfl
  | some u => rw [A.sub p u q] at hp; exact nomatch hp
theorem At.notOwn (A : At K ρ σ Hk H2) {p : Addr} (hp : H2 p = none) : ¬ Own ρ σ p := fun z => by
  obtain ⟨_, xs, e⟩ := A.own_at z
  rw [hp] at e; exact nomatch e
end

/-! ### readings over data -/
abbrev PD := D → Env → Prop
section
variable (K : PySem.W.Frag)
def wE (t : TE) (ρ : Env) (P : PD) : Prop := ∀ σ Hk H2, At K ρ σ Hk H2 → ∀ Q : VK, (∀ y d ρ' Hk' H2', P d ρ' → At K ρ' σ Hk' H2' → Tr (Own ρ σ) Hk H2 (Own ρ' σ) Hk' H2' → Rp K Hk' d y → Q y H2') → t σ H2 Q
def wT (t : TT) (ρ : Env) (P : Bool → Env → Prop) : Prop := ∀ σ Hk H2, At K ρ σ Hk H2 → ∀ Q : Bool → Hp → Prop, (∀ b ρ' Hk' H2', P b ρ' → At K ρ' σ Hk' H2' → Tr (Own ρ σ) Hk H2 (Own ρ' σ) Hk' H2' → Q b H2') → t σ H2 Q
def wA (t : TA) (ρ : Env) (P : List D → Env → Prop) : Prop := ∀ σ Hk H2, At K ρ σ Hk H2 → ∀ Q : List V → Hp → Prop, (∀ ys ds ρ' Hk' H2', P ds ρ' → At K ρ' σ Hk' H2' → Tr (Own ρ σ) Hk H2 (Own ρ' σ) Hk' H2' → RpL K Hk' ds ys → Q ys H2') → t σ H2 Q
def wO (t : TO) (ρ : Env) (P : Option Int → Env → Prop) : Prop := ∀ σ Hk H2, At K ρ σ Hk H2 → ∀ Q : Option Int → Hp → Prop, (∀ o ρ' Hk' H2', P o ρ' → At K ρ' σ Hk' H2' → Tr (Own ρ σ) Hk H2 (Own ρ' σ) Hk' H2' → Q o H2') → t σ H2 Q
structure De where
  nx : Env → Prop
  rt : PD
  bk : Env → Prop := fun _ => False
  ct : Env → Prop := fun _ => False
def wS (t : TS) (ρ : Env) (E : De) : Prop := ∀ σ Hk H2 (F : Ends), At K ρ σ Hk H2 →
  (∀ ρ' σ' Hk' H2', E.nx ρ' → At K ρ' σ' Hk' H2' → Tr (Own ρ σ) Hk H2 (Own ρ' σ') Hk' H2' → F.nx σ' H2') →
  (∀ y d ρ' σ' Hk' H2', E.rt d ρ' → At K ρ' σ' Hk' H2' → Tr (Own ρ σ) Hk H2 (Own ρ' σ') Hk' H2' → Rp K Hk' d y → F.rt y H2') →
  (∀ ρ' σ' Hk' H2', E.bk ρ' → At K ρ' σ' Hk' H2' → Tr (Own ρ σ) Hk H2 (Own ρ' σ') Hk' H2' → F.bk σ' H2') →
  (∀ ρ' σ' Hk' H2', E.ct ρ' → At K ρ' σ' Hk' H2' → Tr (Own ρ σ) Hk H2 (Own ρ' σ') Hk' H2' → F.ct σ' H2') → t F σ H2
/-- a target takes d; js: the slots that it may write -/
def wG (js : List Nat) (g : TG) (d : D) (ρ : Env) (N : Env → Prop) : Prop := ∀ σ Hk H2 y, At K ρ σ Hk H2 → Rp K Hk d y → ∀ Q : L2.St → Hp → Prop,
  (∀ ρ' σ' Hk' H2', N ρ' → At K ρ' σ' Hk' H2' → Tr (Own ρ σ) Hk H2 (Own ρ' σ') Hk' H2' → wipe σ' js = wipe σ js → Q σ' H2') → g y σ H2 Q
def wGs (js : List Nat) (g : TGs) (ds : List D) (ρ : Env) (N : Env → Prop) : Prop := ∀ σ Hk H2 ys, At K ρ σ Hk H2 → RpL K Hk ds ys → ∀ Q : L2.St → Hp → Prop,
  (∀ ρ' σ' Hk' H2', N ρ' → At K ρ' σ' Hk' H2' → Tr (Own ρ σ) Hk H2 (Own ρ' σ') Hk' H2' → wipe σ' js = wipe σ js → Q σ' H2') → g ys σ H2 Q
/-- an iterator that gives the data ds -/
structure Goes (J : It) (ds : List D) (Hk : Hp) : Prop where
  go : ∀ i H, i < ds.length → Same Hk H → J.go i H
  stop : ∀ H, Same Hk H → J.stop ds.length H
  yld : ∀ i H x H' Hk' d, ds[i]? = some d → Same Hk Hk' → Same Hk' H → J.yld i H x H' →
    ∃ Hk2, Same Hk' Hk2 ∧ Same Hk2 H' ∧ (∀ a o, H a = some o → H' a = some o) ∧ (∀ a, Hk2 a ≠ none → Hk' a ≠ none ∨ H a = none) ∧ Rp K Hk2 d x
def wI (wi : TI) (ρ : Env) (R : List D → Env → Prop) : Prop := ∀ σ Hk H2, At K ρ σ Hk H2 → ∀ Q : It → Hp → Prop, (∀ J ds ρ' Hk' H2', R ds ρ' → At K ρ' σ Hk' H2' → Tr (Own ρ σ) Hk H2 (Own ρ' σ) Hk' H2' → Goes K J ds Hk' → Q J H2') → wi σ H2 Q
end
end Dl
set_option Elab.async false
set_option linter.all false
set_option maxRecDepth 100000
set_option maxHeartbeats 1200000
/-! Rules for readings over data: expressions, tests, calls of built-ins. -/
namespace Dl
open PySem L2 StX
section
variable {K : PySem.W.Frag} {ρ : Env} {P : PD}
theorem wE.mono {t : TE} {P' : PD} (h : wE K t ρ P) (i : ∀ d ρ', P d ρ' → P' d ρ') : wE K t ρ P' := fun σ Hk H2 A Q q => h σ Hk H2 A Q fun y d ρ' Hk' H2' p => q y d ρ' Hk' H2' (i d ρ' p)
theorem wT.mono {t : TT} {P P' : Bool → Env → Prop} (h : wT K t ρ P) (i : ∀ d ρ', P d ρ' → P' d ρ') : wT K t ρ P' := fun σ Hk H2 A Q q => h σ Hk H2 A Q fun y ρ' Hk' H2' p => q y ρ' Hk' H2' (i y ρ' p)
/-! ### names, constants -/
theorem w_var {i : Nat} {d : D} (h : ρ[i]? = some (.dat d)) (p : P d ρ) : wE K (tVar i) ρ P := fun σ Hk H2 A Q q => by
  obtain ⟨y, e, r⟩ := A.get h
  exact ⟨y, e, q y d ρ Hk H2 p A .refl r⟩
theorem w_c {x : V} (p : P (.v x) ρ) : wE K (tC x) ρ P := fun σ Hk H2 A Q q => q x _ ρ Hk H2 p A .refl rfl
/-- a constant that stands for data at any heap -/
theorem w_cd {x : V} {d : D} (h : ∀ H, Rp K H d x) (p : P d ρ) : wE K (tC x) ρ P := fun σ Hk H2 A Q q => q x d ρ Hk H2 p A .refl (h _)
theorem w_hide {t : TE} {d : D} (h : wE K t ρ fun d' ρ' => d' = d ∧ ρ' = ρ) (p : P d ρ) : wE K t ρ P := h.mono fun d' ρ' ⟨e1, e2⟩ => by rw [e1, e2]; exact p
/-! ### two operands -/
/-- what an operation does over data -/
def OpD (K : PySem.W.Frag) (r : R2) (s : D → D → (D → Prop) → Prop) : Prop := ∀ ρ σ Hk H2 da db x y, At K ρ σ Hk H2 → Rp K Hk da x → Rp K Hk db y → ∀ (P : D → Prop) (Q : VK), s da db P →
  (∀ z d Hk' H2', P d → At K ρ σ Hk' H2' → Tr (Own ρ σ) Hk H2 (Own ρ σ) Hk' H2' → Rp K Hk' d z → Q z H2') → r x y H2 Q
theorem w_op {r : R2} {s : D → D → (D → Prop) → Prop} {ta tb : TE} (o : OpD K r s) (h : wE K ta ρ fun da ρ1 => wE K tb ρ1 fun db ρ2 => s da db fun d => P d ρ2) : wE K (tOp r ta tb) ρ P := fun σ Hk H2 A Q q =>
  h σ Hk H2 A _ fun x da ρ1 Hk1 H21 h1 A1 T1 r1 => h1 σ Hk1 H21 A1 _ fun y db ρ2 Hk2 H22 h2 A2 T2 r2 =>
    o ρ2 σ Hk2 H22 da db x y A2 (r1.mono T2.ex) r2 _ Q h2 fun z d Hk3 H23 p A3 T3 r3 => q z d ρ2 Hk3 H23 p A3 ((T1.trans T2).trans T3) r3
theorem od_I0 {g : Int → Int → V} : OpD K (rI0 g) fun da db P => ∃ i j, da = .int i ∧ db = .int j ∧ P (.v (g i j)) := fun ρ σ Hk H2 da db x y A ra rb P Q ⟨i, j, e1, e2, p⟩ q => by
  subst e1 e2
  exact ⟨i, j, ra, rb, q _ _ Hk H2 p A .refl rfl⟩
theorem od_I {C : Int → Int → Prop} {g : Int → Int → V} : OpD K (rI C g) fun da db P => ∃ i j, da = .int i ∧ db = .int j ∧ C i j ∧ P (.v (g i j)) := fun ρ σ Hk H2 da db x y A ra rb P Q ⟨i, j, e1, e2, c, p⟩ q => by
  subst e1 e2
  exact ⟨i, j, ra, rb, c, q _ _ Hk H2 p A .refl rfl⟩
theorem od_eq : OpD K rEq fun da db P => ∃ x y, da = .v x ∧ db = .v y ∧ scal x y = true ∧ P (.bl (decide (x = y))) := fun ρ σ Hk H2 da db x y A ra rb P Q ⟨i, j, e1, e2, c, p⟩ q => by
  subst e1 e2
  obtain rfl : x = i := ra
  obtain rfl : y = j := rb
  exact ⟨c, q _ _ Hk H2 p A .refl rfl⟩
theorem od_ne : OpD K rNe fun da db P => ∃ x y, da = .v x ∧ db = .v y ∧ scal x y = true ∧ P (.bl (!decide (x = y))) := fun ρ σ Hk H2 da db x y A ra rb P Q ⟨i, j, e1, e2, c, p⟩ q => by
  subst e1 e2
  obtain rfl : x = i := ra
  obtain rfl : y = j := rb
  exact ⟨c, q _ _ Hk H2 p A .refl rfl⟩
/-- is it None -/
def isNon : D → Bool
  | .v .non => true
  | _ => false
theorem isNon_eq {H : Hp} {d : D} {x : V} (r : Rp K H d x) : decide (x = .non) = isNon d := by
  cases d with
  | v y =>
    obtain rfl : x = y := r
    cases x <;> first | rfl | exact decide_eq_false (fun z => nomatch z)
  | lst _ => obtain ⟨a, xs, rfl, _⟩ := r; exact decide_eq_false (fun z => nomatch z)
  | rd _ => obtain ⟨a, xs, rfl, _⟩ := r; exact decide_eq_false (fun z => nomatch z)
  | tup _ => obtain ⟨a, xs, rfl, _⟩ := r; exact decide_eq_false (fun z => nomatch z)
  | obj _ _ _ => obtain ⟨a, _, xs, rfl, _⟩ := r; exact decide_eq_false (fun z => nomatch z)
  | dct _ _ => obtain ⟨a, xs, rfl, _⟩ := r; exact decide_eq_false (fun z => nomatch z)
theorem od_isN : OpD K (fun x y H Q => y = .non ∧ Q (.bl (decide (x = .non))) H) fun da db P => db = .non ∧ P (.bl (isNon da)) := fun ρ σ Hk H2 da db x y A ra rb P Q ⟨e, p⟩ q => by
  subst e
  refine ⟨rb, ?_⟩
  show Q (.bl (decide (x = .non))) H2
  rw [isNon_eq ra]
  exact q _ _ Hk H2 p A .refl rfl
theorem od_notN : OpD K (fun x y H Q => y = .non ∧ Q (.bl (!decide (x = .non))) H) fun da db P => db = .non ∧ P (.bl (!isNon da)) := fun ρ σ Hk H2 da db x y A ra rb P Q ⟨e, p⟩ q => by
  subst e
  refine ⟨rb, ?_⟩
  show Q (.bl (!decide (x = .non))) H2
  rw [isNon_eq ra]
  exact q _ _ Hk H2 p A .refl rfl
theorem ixN_len {α β : Type} {xs : List α} {ys : List β} (h : xs.length = ys.length) (i : Int) : ixN xs.length i = ixN ys.length i := by rw [h]
theorem atI_get {H : Hp} {ds : List D} {xs : List V} (r : RpL K H ds xs) {i : Int} {d : D} (h : atI ds i = some d) : ∃ y, atI xs i = some y ∧ Rp K H d y := by
  unfold atI at h ⊢
  rw [ixN_len r.length i]
  cases e : ixN ds.length i with
  | none => rw [e] at h; exact nomatch h
  | some j =>
    rw [e] at h
    exact r.get h
/-- a list that is read, tracked or not -/
def lst? : D → Option (List D)
  | .lst ds => some ds
  | .rd ds => some ds
  | _ => none
theorem seqOf {H H' : Hp} {d : D} {ds : List D} {x : V} (s : Same H H') (r : Rp K H d x) (e : lst? d = some ds) : ∃ a xs, x = .ref a ∧ SqL K H' a xs ∧ RpL K H ds xs := by
  cases d with
  | lst es =>
    obtain rfl : es = ds := Option.some.inj e
    obtain ⟨a, xs, h1, h2, h3⟩ := r
    exact ⟨a, xs, h1, .inl (.inl (s _ _ h2)), h3⟩
  | rd es =>
    obtain rfl : es = ds := Option.some.inj e
    obtain ⟨a, xs, h1, h2, h3⟩ := r
    exact ⟨a, xs, h1, s.seq h2, h3⟩
  | _ => exact nomatch e
theorem od_ixL : OpD K (rIxL K) fun da db P => ∃ ds i d, lst? da = some ds ∧ db = .int i ∧ atI ds i = some d ∧ P d := fun ρ σ Hk H2 da db x y A ra rb P Q ⟨ds, i, d, e1, e2, h, p⟩ q => by
  subst e2
  obtain ⟨a, xs, rfl, hs, hr⟩ := seqOf A.sub ra e1
  obtain ⟨z, hz, rz⟩ := atI_get hr h
  exact ⟨a, xs, i, z, rfl, rb, hs, hz, q z d Hk H2 p A .refl rz⟩
theorem od_ixT : OpD K (rIxT K) fun da db P => ∃ ds i d, da = .tup ds ∧ db = .int i ∧ atI ds i = some d ∧ P d := fun ρ σ Hk H2 da db x y A ra rb P Q ⟨ds, i, d, e1, e2, h, p⟩ q => by
  subst e1 e2
  obtain ⟨a, xs, rfl, hs, hr⟩ := ra
  obtain ⟨z, hz, rz⟩ := atI_get hr h
  exact ⟨a, xs, i, z, rfl, rb, sameT A.sub hs, hz, q z d Hk H2 p A .refl rz⟩
/-- xs[i], a list or a tuple -/
def items : D → Option (List D)
  | .lst ds => some ds
  | .rd ds => some ds
  | .tup ds => some ds
  | _ => none
/-- .. or a tuple -/
theorem itemsOf {H H' : Hp} {d : D} {ds : List D} {x : V} (s : Same H H') (r : Rp K H d x) (e : items d = some ds) : ∃ a xs, x = .ref a ∧ (SqL K H' a xs ∨ SqT K H' a xs) ∧ RpL K H ds xs := by
  cases d with
  | lst es =>
    obtain ⟨a, xs, h1, h2, h3⟩ := seqOf s r (ds := ds) e
    exact ⟨a, xs, h1, .inl h2, h3⟩
  | rd es =>
    obtain ⟨a, xs, h1, h2, h3⟩ := seqOf s r (ds := ds) e
    exact ⟨a, xs, h1, .inl h2, h3⟩
  | tup es =>
    obtain rfl : es = ds := Option.some.inj e
    obtain ⟨a, xs, h1, h2, h3⟩ := r
    exact ⟨a, xs, h1, .inr (sameT s h2), h3⟩
  | _ => exact nomatch e
theorem od_ix : OpD K (rIx K) fun da db P => ∃ ds i d, items da = some ds ∧ db = .int i ∧ atI ds i = some d ∧ P d := fun ρ σ Hk H2 da db x y A ra rb P Q ⟨ds, i, d, e1, e2, h, p⟩ q => by
  subst e2
  obtain ⟨a, xs, rfl, hs, hr⟩ := itemsOf A.sub ra e1
  obtain ⟨z, hz, rz⟩ := atI_get hr h
  rcases hs with hs | hs
  · exact .inl ⟨a, xs, i, z, rfl, rb, hs, hz, q z d Hk H2 p A .refl rz⟩
  · exact .inr (.inl ⟨a, xs, i, z, rfl, rb, hs, hz, q z d Hk H2 p A .refl rz⟩)
/-- a new object that is known at once -/
theorem newTo {σ : L2.St} {Hk H2 : Hp} {Q : VK} {P : D → Prop} {d : D} {o : HO} (A : At K ρ σ Hk H2) (p : P d) (q : ∀ z d Hk' H2', P d → At K ρ σ Hk' H2' → Tr (Own ρ σ) Hk H2 (Own ρ σ) Hk' H2' → Rp K Hk' d z → Q z H2')
    (h : ∀ a, H2 a = none → Same Hk (upd Hk a o) → Rp K (upd Hk a o) d (.ref a)) : ∀ a, H2 a = none → Q (.ref a) (upd H2 a o) := fun a ha => by
  obtain ⟨A', T', e⟩ := A.laid o ha
  exact q _ d _ _ p A' T' (h a ha e)
theorem rp_tup {H : Hp} {a : Addr} {xs : List V} {ds : List D} (r : RpL K H ds xs) (e : Same H (upd H a (.tup xs))) : Rp K (upd H a (.tup xs)) (.tup ds) (.ref a) := ⟨a, xs, rfl, .inl (.inl upd_same), r.mono e⟩
theorem rp_lst {H : Hp} {a : Addr} {xs : List V} {ds : List D} (r : RpL K H ds xs) (e : Same H (upd H a (.lst xs))) : Rp K (upd H a (.lst xs)) (.lst ds) (.ref a) := ⟨a, xs, rfl, upd_same, r.mono e⟩
/-- xs + ys of lists; xs * n -/
theorem od_cat : OpD K rCat fun da db P => ∃ ds es, da = .lst ds ∧ db = .lst es ∧ ds.length + es.length ≤ 100000 ∧ P (.lst (ds ++ es)) := fun ρ σ Hk H2 da db x y A ra rb P Q ⟨ds, es, e1, e2, hl, p⟩ q => by
  subst e1 e2
  obtain ⟨a, xs, rfl, hs, hr⟩ := ra
  obtain ⟨b, ys, rfl, hs', hr'⟩ := rb
  exact ⟨a, b, xs, ys, rfl, rfl, A.sub _ _ hs, A.sub _ _ hs', by rw [hr.length, hr'.length]; exact Nat.le_trans hl (by decide), newTo (d := .lst (ds ++ es)) A p q fun a _ e => rp_lst (hr.app hr') e⟩
theorem od_rep : OpD K rRep fun da db P => ∃ ds k, da = .lst ds ∧ db = .int k ∧ (0 ≤ k ∧ k ≤ 1000) ∧ ds.length ≤ 100 ∧ P (.lst (List.replicate k.toNat ds).flatten) := fun ρ σ Hk H2 da db x y A ra rb P Q ⟨ds, k, e1, e2, hk, hl, p⟩ q => by
  subst e1 e2
  obtain ⟨a, xs, rfl, hs, hr⟩ := ra
  refine ⟨a, k, xs, rfl, rb, A.sub _ _ hs, by omega, by omega, ?_, newTo (d := .lst (List.replicate k.toNat ds).flatten) A p q fun a _ e => rp_lst (hr.rep _) e⟩
  rw [hr.length]
  exact Nat.le_trans (Nat.mul_le_mul hl (show k.toNat ≤ 1000 by omega)) (by decide)
theorem od_repT : OpD K (rRepT K) fun da db P => ∃ ds k, da = .tup ds ∧ db = .int k ∧ (2 ≤ k ∧ k ≤ 1000) ∧ (1 ≤ ds.length ∧ ds.length ≤ 100) ∧ P (.tup (List.replicate k.toNat ds).flatten) := fun ρ σ Hk H2 da db x y A ra rb P Q ⟨ds, k, e1, e2, hk, hl, p⟩ q => by
  subst e1 e2
  obtain ⟨a, xs, rfl, hs, hr⟩ := ra
  refine ⟨a, k, xs, rfl, rb, sameT A.sub hs, fun z => ?_, hk.1, hk.2, by rw [hr.length]; omega, newTo (d := .tup (List.replicate k.toNat ds).flatten) A p q fun a _ e => rp_tup (hr.rep _) e⟩
  have := hr.length
  rw [z] at this
  exact absurd this (by simp; omega)
/-- t + u of tuples -/
theorem od_catA : OpD K (rCatA K) fun da db P => ∃ ds es, da = .tup ds ∧ db = .tup es ∧ ds.length + es.length ≤ 100000 ∧ P (.tup (ds ++ es)) := fun ρ σ Hk H2 da db x y A ra rb P Q ⟨ds, es, e1, e2, hl, p⟩ q => by
  subst e1 e2
  obtain ⟨a, xs, rfl, hs, hr⟩ := ra
  obtain ⟨b, ys, rfl, hs', hr'⟩ := rb
  refine ⟨a, b, xs, ys, rfl, rfl, sameT A.sub hs, sameT A.sub hs', ?_, fun z => ?_, fun _ z => ?_, fun _ _ => newTo (d := .tup (ds ++ es)) A p q fun a _ e => rp_tup (hr.app hr') e⟩
  · rw [hr.length, hr'.length]; exact Nat.le_trans hl (by decide)
  · subst z
    have e0 : ds = [] := by
      cases ds with
      | nil => rfl
      | cons d ds => obtain ⟨_, _, e, _⟩ := hr; exact nomatch e
    subst e0
    exact q _ _ Hk H2 p A .refl ⟨b, ys, rfl, hs', hr'⟩
  · subst z
    have e0 : es = [] := by
      cases es with
      | nil => rfl
      | cons d ds => obtain ⟨_, _, e, _⟩ := hr'; exact nomatch e
    subst e0
    rw [List.append_nil] at p
    exact q _ _ Hk H2 p A .refl ⟨a, xs, rfl, hs, hr⟩
/-- x in xs of flat things -/
def flatD : D → Bool
  | .v x => flatV x
  | _ => false
def unv : D → V
  | .v x => x
  | _ => .non
theorem flat_vals {H : Hp} : ∀ {ds : List D} {xs : List V}, RpL K H ds xs → ds.all flatD = true → xs = ds.map unv ∧ xs.all flatV = true
  | [], xs, r, _ => by
    obtain rfl : xs = [] := r
    exact ⟨rfl, rfl⟩
  | d :: ds, xs, r, h => by
    obtain ⟨y, ys, rfl, r1, r2⟩ := r
    rw [List.all_cons, Bool.and_eq_true]
        at h
    obtain ⟨e1, e2⟩ := flat_vals r2 h.2
    cases d with
    | v x =>
      obtain rfl : y = x := r1
      refine ⟨by rw [e1]; rfl, ?_⟩
      rw [List.all_cons, e2, Bool.and_true]
      exact h.1
    | _ => exact nomatch h.1
theorem od_in {neg : Bool} : OpD K (rIn K neg) fun da db P => ∃ x ds, da = .v x ∧ items db = some ds ∧ flatV x = true ∧ ds.all flatD = true ∧ P (.bl (if neg then !inV x (ds.map unv) else inV x (ds.map unv))) := fun ρ σ Hk H2 da db x y A ra rb P Q ⟨v, ds, e1, e2, h1, h2, p⟩ q => by
  subst e1
  obtain rfl : x = v := ra
  have main : ∀ (b : Addr) (ys : List V), (SqL K H2 b ys ∨ SqT K H2 b ys) → RpL K Hk ds ys → rIn K neg x (.ref b) H2 Q := fun b ys hs hr => by
    obtain ⟨e3, e4⟩ := flat_vals hr h2
    refine ⟨b, ys, rfl, hs, h1, e4, ?_⟩
    rw [e3]
    exact q _ _ Hk H2 p A .refl rfl
  obtain ⟨b, ys, rfl, hs, hr⟩ := itemsOf A.sub rb e2
  exact main b ys hs hr
/-! ### deep equality -/
mutual
def py : D → PyData
  | .v .non => .none
  | .v (.bl b) => .bool b
  | .v (.int i) => .int i
  | .v (.str x) => .str x
  | .lst ds => .list (pyL ds)
  | .tup ds => .tuple (pyL ds)
  | _ => .none
def pyL : List D → List PyData
  | [] => []
  | d :: ds => py d :: pyL ds
end
mutual
def plain : D → Bool
  | .v .non => true
  | .v (.bl _) => true
  | .v (.int _) => true
  | .v (.str _) => true
  | .lst ds => plainL ds
  | .tup ds => plainL ds
  | _ => false
def plainL : List D → Bool
  | [] => true
  | d :: ds => plain d && plainL ds
end
mutual
theorem rp_py {H : Hp} : ∀ {d : D} {x : V}, Rp K H d x → plain d = true → Dp K H x (py d)
  | .v .non, x, r, _ => by obtain rfl : x = _ := r; exact .non
  | .v (.bl b), x, r, _ => by obtain rfl : x = _ := r; exact .bl b
  | .v (.int b), x, r, _ => by obtain rfl : x = _ := r; exact .int b
  | .v (.str b), x, r, _ => by obtain rfl : x = _ := r; exact .str b
  | .v (.byt b), x, r, h => by unfold plain at h; exact nomatch h
  | .v (.flt b), x, r, h => by unfold plain at h; exact nomatch h
  | .v (.ref b), x, r, h => by unfold plain at h; exact nomatch h
  | .v (.ty b), x, r, h => by unfold plain at h; exact nomatch h
  | .lst ds, x, r, h => by
    unfold plain at h
    obtain ⟨a, xs, rfl, hs, hr⟩ := r
    unfold py
    exact .lst (.inl (.inl hs)) (rp_pyL hr h)
  | .rd _, x, r, h => by unfold plain at h; exact nomatch h
  | .tup ds, x, r, h => by
    unfold plain at h
    obtain ⟨a, xs, rfl, hs, hr⟩ := r
    unfold py
    exact .tup hs (rp_pyL hr h)
  | .obj _ _ _, x, r, h => by unfold plain at h; exact nomatch h
  | .dct _ _, x, r, h => by unfold plain at h; exact nomatch h
theorem rp_pyL {H : Hp} : ∀ {ds : List D} {xs : List V}, RpL K H ds xs → plainL ds = true → DpAll K H xs (pyL ds)
  | [], xs, r, _ => by
    obtain rfl : xs = [] := r
    unfold pyL
    exact .nil
  | d :: ds, xs, r, h => by
    unfold plainL at h
    rw [Bool.and_eq_true] at h
    obtain ⟨y, ys, rfl, r1, r2⟩ := r
    unfold pyL
    exact .cons (rp_py r1 h.1) (rp_pyL r2 h.2)
end
def okEq (d : D) : Prop := plain d = true ∧ SeqAt.shaped (py d) = true
theorem od_eqD : OpD K (rEqD K) fun da db P => okEq da ∧ okEq db ∧ P (.bl (PyData.eqv (py da) (py db))) := fun ρ σ Hk H2 da db x y A ra rb P Q ⟨h1, h2, p⟩ q =>
  ⟨_, _, rp_py (ra.mono A.sub) h1.1, rp_py (rb.mono A.sub) h2.1, h1.2, h2.2, q _ _ Hk H2 p A .refl rfl⟩
theorem od_neD : OpD K (rNeD K) fun da db P => okEq da ∧ okEq db ∧ P (.bl (!PyData.eqv (py da) (py db))) := fun ρ σ Hk H2 da db x y A ra rb P Q ⟨h1, h2, p⟩ q =>
  ⟨_, _, rp_py (ra.mono A.sub) h1.1, rp_py (rb.mono A.sub) h2.1, h1.2, h2.2, q _ _ Hk H2 p A .refl rfl⟩
theorem od_notInD : OpD K (rNotInD K) fun da db P => ∃ es, db = .lst es ∧ okEq da ∧ okEq db ∧ P (.bl (!(pyL es).any fun z => PyData.eqv z (py da))) := fun ρ σ Hk H2 da db x y A ra rb P Q ⟨es, e, h1, h2, p⟩ q => by
  subst e
  have h3 := rp_py (rb.mono A.sub) h2.1
  have h4 := h2.2
  rw [show py (.lst es) = .list (pyL es) by unfold py; rfl] at h3 h4
  exact ⟨_, _, rp_py (ra.mono A.sub) h1.1, h3, h1.2, h4, q _ _ Hk H2 p A .refl rfl⟩
/-! ### one operand; displays; arguments -/
theorem w_neg {ta : TE} (h : wE K ta ρ fun d ρ1 => ∃ i, d = .int i ∧ P (.int (-i)) ρ1) : wE K (tUn (rU fun i => .int (-i)) ta) ρ P := fun σ Hk H2 A Q q =>
  h σ Hk H2 A _ fun x da ρ1 Hk1 H21 ⟨i, e, p⟩ A1 T1 r1 => by
    subst e
    exact ⟨i, r1, q _ _ ρ1 Hk1 H21 p A1 T1 rfl⟩
theorem w_nil {R : List D → Env → Prop} (p : R [] ρ) : wA K tNil ρ R := fun σ Hk H2 A Q q => q [] [] ρ Hk H2 p A .refl rfl
theorem w_cons {ta : TE} {tr : TA} {R : List D → Env → Prop} (h : wE K ta ρ fun d ρ1 => wA K tr ρ1 fun ds ρ2 => R (d :: ds) ρ2) : wA K (tCons ta tr) ρ R := fun σ Hk H2 A Q q =>
  h σ Hk H2 A _ fun x d ρ1 Hk1 H21 h1 A1 T1 r1 => h1 σ Hk1 H21 A1 _ fun ys ds ρ2 Hk2 H22 h2 A2 T2 r2 => q _ _ ρ2 Hk2 H22 h2 A2 (T1.trans T2) ⟨x, ys, rfl, r1.mono T2.ex, r2⟩
theorem w_star {ta : TE} {tr : TA} {R : List D → Env → Prop} (h : wE K ta ρ fun d ρ1 => ∃ ds, items d = some ds ∧ wA K tr ρ1 fun es ρ2 => R (ds ++ es) ρ2) : wA K (tStar K ta tr) ρ R := fun σ Hk H2 A Q q =>
  h σ Hk H2 A _ fun x d ρ1 Hk1 H21 ⟨ds, e, h1⟩ A1 T1 r1 => by
    have main : ∀ (b : Addr) (ys : List V), x = .ref b → (SqT K H21 b ys ∨ SqL K H21 b ys) → RpL K Hk1 ds ys → ∃ p xs, x = V.ref p ∧ (SqT K H21 p xs ∨ SqL K H21 p xs) ∧ tr σ H21 fun ys H2 => Q (xs ++ ys) H2 := fun b ys e hs hr =>
      ⟨b, ys, e, hs, h1 σ Hk1 H21 A1 _ fun zs es ρ2 Hk2 H22 h2 A2 T2 r2 => q _ _ ρ2 Hk2 H22 h2 A2 (T1.trans T2) ((hr.mono T2.ex).app r2)⟩
    obtain ⟨b, ys, e1, hs, hr⟩ := itemsOf A1.sub r1 e
    exact main b ys e1 hs.symm hr
theorem w_tup {t : TA} (h : wA K t ρ fun ds ρ1 => ds.length ≤ 100000 ∧ P (.tup ds) ρ1) : wE K (tTup t) ρ P := fun σ Hk H2 A Q q =>
  h σ Hk H2 A _ fun ys ds ρ1 Hk1 H21 ⟨hl, p⟩ A1 T1 r1 => ⟨by rw [r1.length]; exact Nat.le_trans hl (by decide), newTo (P := fun d => P d ρ1) A1 p (fun z d Hk' H2' p' A' T' => q z d ρ1 Hk' H2' p' A' (T1.trans T')) fun a _ e => rp_tup r1 e⟩
theorem w_lst {t : TA} (h : wA K t ρ fun ds ρ1 => ds.length ≤ 100000 ∧ P (.lst ds) ρ1) : wE K (tLst t) ρ P := fun σ Hk H2 A Q q =>
  h σ Hk H2 A _ fun ys ds ρ1 Hk1 H21 ⟨hl, p⟩ A1 T1 r1 => ⟨by rw [r1.length]; exact Nat.le_trans hl (by decide), newTo (P := fun d => P d ρ1) A1 p (fun z d Hk' H2' p' A' T' => q z d ρ1 Hk' H2' p' A' (T1.trans T')) fun a _ e => rp_lst r1 e⟩
/-- f(..), a built-in by its reading -/
def CaD (K : PySem.W.Frag) (r : List V → Hp → VK → Prop) (s : List D → (D → Prop) → Prop) : Prop := ∀ ρ σ Hk H2 ds xs, At K ρ σ Hk H2 → RpL K Hk ds xs → ∀ (P : D → Prop) (Q : VK), s ds P →
  (∀ z d Hk' H2', P d → At K ρ σ Hk' H2' → Tr (Own ρ σ) Hk H2 (Own ρ σ) Hk' H2' → Rp K Hk' d z → Q z H2') → r xs H2 Q
theorem w_cb {r : List V → Hp → VK → Prop} {s : List D → (D → Prop) → Prop} {t : TA} (c : CaD K r s) (h : wA K t ρ fun ds ρ1 => s ds fun d => P d ρ1) : wE K (tCB r t) ρ P := fun σ Hk H2 A Q q =>
  h σ Hk H2 A _ fun ys ds ρ1 Hk1 H21 h1 A1 T1 r1 => c ρ1 σ Hk1 H21 ds ys A1 r1 _ Q h1 fun z d Hk' H2' p A' T' => q z d ρ1 Hk' H2' p A' (T1.trans T')
theorem ca_len : CaD K (fun xs H Q => ∃ p ys, xs = [.ref p] ∧ (SqL K H p ys ∨ SqT K H p ys) ∧ Q (.int ys.length) H) fun ds P => ∃ d es, ds = [d] ∧ items d = some es ∧ P (.int (es.length : Int)) := fun ρ σ Hk H2 ds xs A r P Q ⟨d, es, e1, e2, p⟩ q => by
  subst e1
  obtain ⟨y, ys, rfl, r1, hn⟩ := r
  obtain rfl : ys = [] := hn
  obtain ⟨b, zs, rfl, hs, hr⟩ := itemsOf A.sub r1 e2
  exact ⟨b, zs, rfl, hs, q _ _ Hk H2 p A .refl (by rw [hr.length]; rfl)⟩
theorem ca_len_str : CaD K (fun xs H Q => ∃ x, xs = [.str x] ∧ x.length ≤ sizeLine ∧ Q (.int x.length) H) fun ds P => ∃ x, ds = [.str x] ∧ x.length ≤ 100000 ∧ P (.int (x.length : Int)) := fun ρ σ Hk H2 ds xs A r P Q ⟨x, e1, h, p⟩ q => by
  subst e1
  obtain ⟨y, ys, rfl, r1, hn⟩ := r
  obtain rfl : ys = [] := hn
  obtain rfl : y = .str x := r1
  exact ⟨x, rfl, Nat.le_trans h (by decide), q _ _ Hk H2 p A .refl rfl⟩
theorem ca_list : CaD K (fun xs H Q => ∃ p ys, xs = [.ref p] ∧ (SqL K H p ys ∨ SqT K H p ys) ∧ ∀ l, H l = none → Q (.ref l) (upd H l (.lst ys))) fun ds P => ∃ d es, ds = [d] ∧ items d = some es ∧ P (.lst es) := fun ρ σ Hk H2 ds xs A r P Q ⟨d, es, e1, e2, p⟩ q => by
  subst e1
  obtain ⟨y, ys, rfl, r1, hn⟩ := r
  obtain rfl : ys = [] := hn
  obtain ⟨b, zs, rfl, hs, hr⟩ := itemsOf A.sub r1 e2
  exact ⟨b, zs, rfl, hs, newTo A p q fun a _ e => rp_lst hr e⟩
theorem ca_tuple : CaD K (fun xs H Q => ∃ p ys, xs = [.ref p] ∧ ((SqL K H p ys ∧ ∀ l, H l = none → Q (.ref l) (upd H l (.tup ys))) ∨ (SqT K H p ys ∧ Q (.ref p) H))) fun ds P => ∃ d es, ds = [d] ∧ items d = some es ∧ P (.tup es) := fun ρ σ Hk H2 ds xs A r P Q ⟨d, es, e1, e2, p⟩ q => by
  subst e1
  obtain ⟨y, ys, rfl, r1, hn⟩ := r
  obtain rfl : ys = [] := hn
  cases d with
  | tup fs =>
    obtain rfl : fs = es := Option.some.inj e2
    obtain ⟨b, zs, rfl, hs, hr⟩ := r1
    exact ⟨b, zs, rfl, .inr ⟨sameT A.sub hs, q _ _ Hk H2 p A .refl ⟨b, zs, rfl, hs, hr⟩⟩⟩
  | lst fs =>
    obtain ⟨b, zs, rfl, hs, hr⟩ := seqOf A.sub r1 (ds := es) e2
    exact ⟨b, zs, rfl, .inl ⟨hs, newTo A p q fun a _ e => rp_tup hr e⟩⟩
  | rd fs =>
    obtain ⟨b, zs, rfl, hs, hr⟩ := seqOf A.sub r1 (ds := es) e2
    exact ⟨b, zs, rfl, .inl ⟨hs, newTo A p q fun a _ e => rp_tup hr e⟩⟩
  | _ => exact nomatch e2
theorem ca_abs : CaD K (fun xs H Q => ∃ i, xs = [.int i] ∧ Q (.int (if i < 0 then -i else i)) H) fun ds P => ∃ i : Int, ds = [.int i] ∧ P (.int (i.natAbs : Int)) := fun ρ σ Hk H2 ds xs A r P Q ⟨i, e1, p⟩ q => by
  subst e1
  obtain ⟨y, ys, rfl, r1, hn⟩ := r
  obtain rfl : ys = [] := hn
  obtain rfl : y = .int i := r1
  refine ⟨i, rfl, ?_⟩
  have e : (if i < 0 then -i else i) = (i.natAbs : Int) := by split <;> omega
  rw [e]
  exact q _ _ Hk H2 p A .refl rfl
theorem ca_int : CaD K (fun xs H Q => (∃ i, xs = [.int i] ∧ Q (.int i) H) ∨ ∃ b, xs = [.bl b] ∧ Q (.int (if b then 1 else 0)) H) fun ds P => (∃ i, ds = [.int i] ∧ P (.int i)) ∨ ∃ b, ds = [.bl b] ∧ P (.int (if b then 1 else 0)) := fun ρ σ Hk H2 ds xs A r P Q h q => by
  rcases h with ⟨i, e1, p⟩ | ⟨i, e1, p⟩
  all_goals
    subst e1
    obtain ⟨y, ys, rfl, r1, hn⟩ := r
    obtain rfl : ys = [] := hn
    obtain rfl : y = _ := r1
  · exact .inl ⟨i, rfl, q _ _ Hk H2 p A .refl rfl⟩
  · exact .inr ⟨i, rfl, q _ _ Hk H2 p A .refl rfl⟩
theorem ca_all : CaD K (rAll K) fun ds P => ∃ bs : List Bool, ds = [.lst (bs.map D.bl)] ∧ P (.bl (bs.all id)) := fun ρ σ Hk H2 ds xs A r P Q ⟨bs, e1, p⟩ q => by
  subst e1
  obtain ⟨y, ys, rfl, r1, hn⟩ := r
  obtain rfl : ys = [] := hn
  obtain ⟨b, zs, rfl, hs, hr⟩ := r1
  have e : zs = bs.map V.bl := by
    have h := RpL.vs (K := K) (H := Hk) (ns := bs.map V.bl) (xs := zs)
    rw [List.map_map] at h
    exact h.mp hr
  subst e
  exact ⟨b, bs, rfl, .inl (.inl (A.sub _ _ hs)), q _ _ Hk H2 p A .refl rfl⟩
end
end Dl
set_option Elab.async false
set_option linter.all false
set_option maxRecDepth 100000
set_option maxHeartbeats 1200000
/-! Rules for readings over data: tests, iterators, comprehensions, targets, statements. -/
namespace Dl
open PySem L2 StX
section
variable {K : PySem.W.Frag} {ρ : Env} {P : PD}
/-! ### tests -/
variable {PB : Bool → Env → Prop} {t u : TT} {ta tb te : TE}
theorem w_B (h : wE K ta ρ fun d ρ1 => ∃ b, d = .bl b ∧ PB b ρ1) : wT K (tB ta) ρ PB := fun σ Hk H2 A Q q => h σ Hk H2 A _ fun x d ρ1 Hk1 H21 ⟨b, e, p⟩ A1 T1 r1 => by
  subst e
  exact ⟨b, r1, q b ρ1 Hk1 H21 p A1 T1⟩
theorem w_test (h : wE K ta ρ fun d ρ1 => ∃ b, d = .bl b ∧ PB b ρ1) : wT K (tTest ta) ρ PB := fun σ Hk H2 A Q q => h σ Hk H2 A _ fun x d ρ1 Hk1 H21 ⟨b, e, p⟩ A1 T1 r1 => by
  subst e
  exact ⟨b, r1, q b ρ1 Hk1 H21 p A1 T1⟩
theorem w_not (h : wT K t ρ fun b ρ1 => PB (!b) ρ1) : wT K (tNot t) ρ PB := fun σ Hk H2 A Q q => h σ Hk H2 A _ fun b ρ1 Hk1 H21 p A1 T1 => q _ ρ1 Hk1 H21 p A1 T1
theorem w_and (h : wT K t ρ fun b ρ1 => if b = true then wT K u ρ1 PB else PB false ρ1) : wT K (tAnd t u) ρ PB := fun σ Hk H2 A Q q => h σ Hk H2 A _ fun b ρ1 Hk1 H21 p A1 T1 => by
  cases b with
  | true => exact (show wT K u ρ1 PB from p) σ Hk1 H21 A1 Q fun c ρ2 Hk2 H22 p2 A2 T2 => q c ρ2 Hk2 H22 p2 A2 (T1.trans T2)
  | false => exact q false ρ1 Hk1 H21 p A1 T1
theorem w_or (h : wT K t ρ fun b ρ1 => if b = true then PB true ρ1 else wT K u ρ1 PB) : wT K (tOr t u) ρ PB := fun σ Hk H2 A Q q => h σ Hk H2 A _ fun b ρ1 Hk1 H21 p A1 T1 => by
  cases b with
  | false => exact (show wT K u ρ1 PB from p) σ Hk1 H21 A1 Q fun c ρ2 Hk2 H22 p2 A2 T2 => q c ρ2 Hk2 H22 p2 A2 (T1.trans T2)
  | true => exact q true ρ1 Hk1 H21 p A1 T1
theorem w_andV (h : wE K ta ρ fun d ρ1 => ∃ b, d = .bl b ∧ if b = true then wE K tb ρ1 P else P (.bl false) ρ1) : wE K (tAndV ta tb) ρ P := fun σ Hk H2 A Q q => h σ Hk H2 A _ fun x d ρ1 Hk1 H21 ⟨b, e, p⟩ A1 T1 r1 => by
  subst e
  refine ⟨b, r1, ?_⟩
  cases b with
  | true => exact (show wE K tb ρ1 P from p) σ Hk1 H21 A1 Q fun y c ρ2 Hk2 H22 p2 A2 T2 => q y c ρ2 Hk2 H22 p2 A2 (T1.trans T2)
  | false => exact q _ _ ρ1 Hk1 H21 p A1 T1 rfl
theorem w_orV (h : wE K ta ρ fun d ρ1 => ∃ b, d = .bl b ∧ if b = true then P (.bl true) ρ1 else wE K tb ρ1 P) : wE K (tOrV ta tb) ρ P := fun σ Hk H2 A Q q => h σ Hk H2 A _ fun x d ρ1 Hk1 H21 ⟨b, e, p⟩ A1 T1 r1 => by
  subst e
  refine ⟨b, r1, ?_⟩
  cases b with
  | false => exact (show wE K tb ρ1 P from p) σ Hk1 H21 A1 Q fun y c ρ2 Hk2 H22 p2 A2 T2 => q y c ρ2 Hk2 H22 p2 A2 (T1.trans T2)
  | true => exact q _ _ ρ1 Hk1 H21 p A1 T1 rfl
theorem w_notV (h : wE K ta ρ fun d ρ1 => ∃ b, d = .bl b ∧ P (.bl (!b)) ρ1) : wE K (tNotV ta) ρ P := fun σ Hk H2 A Q q => h σ Hk H2 A _ fun x d ρ1 Hk1 H21 ⟨b, e, p⟩ A1 T1 r1 => by
  subst e
  exact ⟨b, r1, q _ _ ρ1 Hk1 H21 p A1 T1 rfl⟩
theorem w_if (h : wT K t ρ fun b ρ1 => if b = true then wE K ta ρ1 P else wE K tb ρ1 P) : wE K (tIf t ta tb) ρ P := fun σ Hk H2 A Q q => h σ Hk H2 A _ fun b ρ1 Hk1 H21 p A1 T1 => by
  cases b with
  | true => exact (show wE K ta ρ1 P from p) σ Hk1 H21 A1 Q fun y c ρ2 Hk2 H22 p2 A2 T2 => q y c ρ2 Hk2 H22 p2 A2 (T1.trans T2)
  | false => exact (show wE K tb ρ1 P from p) σ Hk1 H21 A1 Q fun y c ρ2 Hk2 H22 p2 A2 T2 => q y c ρ2 Hk2 H22 p2 A2 (T1.trans T2)
/-- a < b < c -/
theorem w_chain {r r' : R2} {s s' : D → D → (D → Prop) → Prop} {tc : TE} (o : OpD K r s) (o' : OpD K r' s') (h : wE K ta ρ fun da ρ1 => wE K tb ρ1 fun db ρ2 => s da db fun d => ∃ b, d = .bl b ∧ if b = true then wE K tc ρ2 (fun dc ρ3 => s' db dc fun d' => P d' ρ3) else P (.bl false) ρ2) :
    wE K (tChain r r' ta tb tc) ρ P := fun σ Hk H2 A Q q =>
  h σ Hk H2 A _ fun x da ρ1 Hk1 H21 h1 A1 T1 r1 => h1 σ Hk1 H21 A1 _ fun y db ρ2 Hk2 H22 h2 A2 T2 r2 =>
    o ρ2 σ Hk2 H22 da db x y A2 (r1.mono T2.ex) r2 _ _ h2 fun z d Hk3 H23 ⟨b, e, p⟩ A3 T3 r3 => by
      subst e
      refine ⟨b, r3, ?_⟩
      cases b with
      | true =>
        exact (show wE K tc ρ2 (fun dc ρ3 => s' db dc fun d' => P d' ρ3) from p) σ Hk3 H23 A3 _ fun w dc ρ3 Hk4 H24 h4 A4 T4 r4 =>
          o' ρ3 σ Hk4 H24 db dc y w A4 (r2.mono (T3.ex.trans T4.ex)) r4 _ Q h4 fun z d Hk5 H25 p5 A5 T5 r5 => q z d ρ3 Hk5 H25 p5 A5 ((((T1.trans T2).trans T3).trans T4).trans T5) r5
      | false => exact q _ _ ρ2 Hk3 H23 p A3 ((T1.trans T2).trans T3) rfl
/-! ### slices -/
theorem w_noPart {R : Option Int → Env → Prop} (p : R none ρ) : wO K tNoPart ρ R := fun σ Hk H2 A Q q => q none ρ Hk H2 p A .refl
theorem w_some {R : Option Int → Env → Prop} (h : wE K ta ρ fun d ρ1 => ∃ i, d = .int i ∧ R (some i) ρ1) : wO K (tPart ta) ρ R := fun σ Hk H2 A Q q => h σ Hk H2 A _ fun x d ρ1 Hk1 H21 ⟨i, e, p⟩ A1 T1 r1 => by
  subst e
  exact ⟨i, r1, q (some i) ρ1 Hk1 H21 p A1 T1⟩
def cutD (ds : List D) (lo hi : Option Int) : List D := (ds.drop (HT.sIx ds.length 0 lo)).take (HT.sIx ds.length ds.length hi - HT.sIx ds.length 0 lo)
theorem rp_cut {H : Hp} {ds : List D} {xs : List V} (r : RpL K H ds xs) (lo hi : Option Int) : RpL K H (cutD ds lo hi) (cutV xs lo hi) := by
  unfold cutD cutV
  rw [r.length]
  exact (r.drop _).take _
theorem w_slL {tl th : TO} (h : wE K ta ρ fun d ρ1 => wO K tl ρ1 fun lo ρ2 => wO K th ρ2 fun hi ρ3 => ∃ ds, lst? d = some ds ∧ P (.lst (cutD ds lo hi)) ρ3) : wE K (tSl (rSlL K) ta tl th) ρ P := fun σ Hk H2 A Q q =>
  h σ Hk H2 A _ fun x d ρ1 Hk1 H21 h1 A1 T1 r1 => h1 σ Hk1 H21 A1 _ fun lo ρ2 Hk2 H22 h2 A2 T2 => h2 σ Hk2 H22 A2 _ fun hi ρ3 Hk3 H23 ⟨ds, e, p⟩ A3 T3 => by
    obtain ⟨a, xs, rfl, hs, hr⟩ := seqOf A3.sub (r1.mono (T2.ex.trans T3.ex)) e
    exact ⟨a, xs, rfl, hs, newTo (P := fun d => P d ρ3) A3 p (fun z d Hk' H2' p' A' T' => q z d ρ3 Hk' H2' p' A' (((T1.trans T2).trans T3).trans T')) fun a _ e => rp_lst (rp_cut hr lo hi) e⟩
theorem w_slT {tl th : TO} (h : wE K ta ρ fun d ρ1 => wO K tl ρ1 fun lo ρ2 => wO K th ρ2 fun hi ρ3 => ∃ ds, d = .tup ds ∧ P (.tup (cutD ds lo hi)) ρ3) : wE K (tSl (rSlA K) ta tl th) ρ P := fun σ Hk H2 A Q q =>
  h σ Hk H2 A _ fun x d ρ1 Hk1 H21 h1 A1 T1 r1 => h1 σ Hk1 H21 A1 _ fun lo ρ2 Hk2 H22 h2 A2 T2 => h2 σ Hk2 H22 A2 _ fun hi ρ3 Hk3 H23 ⟨ds, e, p⟩ A3 T3 => by
    subst e
    obtain ⟨a, xs, rfl, hs, hr⟩ := r1.mono (T2.ex.trans T3.ex)
    refine ⟨a, xs, rfl, sameT A3.sub hs, fun z => ?_, fun _ => newTo (P := fun d => P d ρ3) A3 p (fun z d Hk' H2' p' A' T' => q z d ρ3 Hk' H2' p' A' (((T1.trans T2).trans T3).trans T')) fun a _ e => rp_tup (rp_cut hr lo hi) e⟩
    have e2 : cutD ds lo hi = ds := by
      unfold cutD
      rw [← hr.length, z.1, z.2]
      show (ds.drop 0).take (xs.length - 0) = ds
      rw [hr.length, List.drop_zero]
      exact List.take_length
    rw [e2] at p
    exact q _ _ ρ3 Hk3 H23 p A3 ((T1.trans T2).trans T3) ⟨a, xs, rfl, hs, hr⟩
/-! ### fields, calls -/
def fieldOf (f : Str) : List Str → List D → Option D
  | n :: ns, d :: ds => if f == n then some d else fieldOf f ns ds
  | _, _ => none
theorem field_get {H : Hp} {f : Str} : ∀ {gs : List (Str × V)} {ns : List Str} {ds : List D} {d : D}, gs.map (·.1) = ns → RpL K H ds (gs.map (·.2)) → fieldOf f ns ds = some d → ∃ y, gs.lookup f = some y ∧ Rp K H d y
  | [], ns, ds, d, e, r, h => by
    obtain rfl : [] = ns := e
    exact nomatch h
  | (g, y) :: gs, ns, ds, d, e, r, h => by
    subst e
    cases ds with
    | nil => exact nomatch h
    | cons d0 ds =>
      obtain ⟨y0, ys, e2, r1, r2⟩ := r
      injection e2 with e3 e4
      subst e3 e4
      have h' : (if f == g then some d0 else fieldOf f (gs.map (·.1)) ds) = some d := h
      show ∃ z, (match f == g with | true => some y | false => gs.lookup f) = some z ∧ _
      cases q : f == g with
      | true =>
        rw [q] at h'
        obtain rfl : d0 = d := Option.some.inj h'
        exact ⟨y, rfl, r1⟩
      | false =>
        rw [q] at h'
        exact field_get rfl r2 h'
theorem w_fld {f : Str} {C : Addr} (c : Cls K C) (n : NoAttr K C f) (h : wE K ta ρ fun d ρ1 => ∃ ns ds e, d = .obj C ns ds ∧ fieldOf f ns ds = some e ∧ P e ρ1) : wE K (tFld K ta f) ρ P := fun σ Hk H2 A Q q =>
  h σ Hk H2 A _ fun x d ρ1 Hk1 H21 ⟨ns, ds, e, e1, hf, p⟩ A1 T1 r1 => by
    subst e1
    obtain ⟨a, dx, gs, rfl, ha, hn, hr⟩ := r1
    obtain ⟨y, hl, hy⟩ := field_get hn hr hf
    exact ⟨a, C, dx, gs, y, rfl, A1.sub _ _ ha, c, n, hl, q y e ρ1 Hk1 H21 p A1 T1 hy⟩
/-- a def over data: what it promises -/
def spD (K : PySem.W.Frag) (S : List D → (D → Prop) → Prop) : Sp := fun vs H1 Q _ => ∃ Hk ds, Same Hk H1 ∧ RpL K Hk ds vs ∧ ∃ P, S ds P ∧
  ∀ y d Hk' H2', P d → Same Hk' H2' → Tr (fun _ => False) Hk H1 (fun _ => False) Hk' H2' → Rp K Hk' d y → Q y H2'
theorem At.after {σ : L2.St} {Hk H2 Hk' H2' : Hp} (A : At K ρ σ Hk H2) (s : Same Hk' H2') (t : Tr (fun _ => False) Hk H2 (fun _ => False) Hk' H2') : At K ρ σ Hk' H2' ∧ Tr (Own ρ σ) Hk H2 (Own ρ σ) Hk' H2' :=
  ⟨A.grow t.ex s (fun a o h => t.fro a o h id) fun a h => (t.new a h).imp id fun z => z.elim id False.elim, ⟨t.ex, fun a o h _ => t.fro a o h id, fun a h => (t.new a h).imp id fun z => z.elim .inl False.elim, fun a h => .inl h⟩⟩
theorem w_call {S : List D → (D → Prop) → Prop} {E : XK} {t : TA} (h : wA K t ρ fun ds ρ1 => S ds fun d => P d ρ1) : wE K (tCall (spD K S) [] E t) ρ P := fun σ Hk H2 A Q q =>
  h σ Hk H2 A _ fun ys ds ρ1 Hk1 H21 h1 A1 T1 r1 => by
    refine ⟨Hk1, ds, A1.sub, by rw [List.append_nil]; exact r1, _, h1, fun y d Hk' H2' p s t r => ?_⟩
    obtain ⟨A', T'⟩ := A1.after s t
    exact q y d ρ1 Hk' H2' p A' (T1.trans T') r
theorem w_callK {S : List D → (D → Prop) → Prop} {E : XK} {t tk : TA} {gV : List V → List V → List V} {gD : List D → List D → List D} (hg : ∀ {H : Hp} {ds es : List D} {xs ys : List V}, RpL K H ds xs → RpL K H es ys → RpL K H (gD ds es) (gV xs ys))
    (h : wA K t ρ fun ds ρ1 => wA K tk ρ1 fun es ρ2 => S (gD ds es) fun d => P d ρ2) : wE K (tCallK (spD K S) gV E t tk) ρ P := fun σ Hk H2 A Q q =>
  h σ Hk H2 A _ fun ys ds ρ1 Hk1 H21 h1 A1 T1 r1 => h1 σ Hk1 H21 A1 _ fun zs es ρ2 Hk2 H22 h2 A2 T2 r2 => by
    refine ⟨Hk2, gD ds es, A2.sub, hg (r1.mono T2.ex) r2, _, h2, fun y d Hk' H2' p s t r => ?_⟩
    obtain ⟨A', T'⟩ := A2.after s t
    exact q y d ρ2 Hk' H2' p A' ((T1.trans T2).trans T') r
theorem w_meth {S : List D → (D → Prop) → Prop} {C : Addr} {m : Str} {E : XK} {t : TA} (h : wE K ta ρ fun d ρ1 => ∃ ns es, d = .obj C ns es ∧ m ∉ ns ∧ wA K t ρ1 fun ds ρ2 => S (d :: ds) fun d => P d ρ2) :
    wE K (tMeth C m (spD K S) [] E ta t) ρ P := fun σ Hk H2 A Q q =>
  h σ Hk H2 A _ fun x d ρ1 Hk1 H21 ⟨ns, es, e1, hm, h1⟩ A1 T1 r1 => by
    have r1' := r1
    subst e1
    obtain ⟨a, dx, gs, ex, ha, hn, hr⟩ := r1'
    refine ⟨a, dx, gs, ex, A1.sub _ _ ha, ?_, h1 σ Hk1 H21 A1 _ fun ys ds ρ2 Hk2 H22 h2 A2 T2 r2 => ?_⟩
    · cases q2 : gs.lookup m with
      | none => rfl
      | some y =>
        exfalso
        refine hm ?_
        rw [← hn]
        exact List.mem_map.mpr ⟨(m, y), He_lookup_mem q2, rfl⟩
    · rw [List.append_nil]
      refine ⟨Hk2, .obj C ns es :: ds, A2.sub, ⟨x, ys, rfl, r1.mono T2.ex, r2⟩, _, h2, fun y d Hk' H2' p s t r => ?_⟩
      obtain ⟨A', T'⟩ := A2.after s t
      exact q y d ρ2 Hk' H2' p A' ((T1.trans T2).trans T') r
where
  He_lookup_mem : ∀ {m : Str} {y : V} {gs : List (Str × V)}, gs.lookup m = some y → (m, y) ∈ gs
    | _, _, [], h => nomatch h
    | m, y, (g, z) :: gs, h => by
      have h' : (match m == g with | true => some z | false => gs.lookup m) = some y := h
      cases q : m == g with
      | true =>
        rw [q] at h'
        obtain rfl : z = y := Option.some.inj h'
        rw [show m = g from eq_of_beq q]
        exact List.mem_cons_self
      | false =>
        rw [q] at h'
        exact List.mem_cons_of_mem _ (He_lookup_mem h')
theorem w_prop {S : List D → (D → Prop) → Prop} {C : Addr} {E : XK} (h : wE K ta ρ fun d ρ1 => ∃ ns es, d = .obj C ns es ∧ S [d] fun d => P d ρ1) : wE K (tProp C (spD K S) [] E ta) ρ P := fun σ Hk H2 A Q q =>
  h σ Hk H2 A _ fun x d ρ1 Hk1 H21 ⟨ns, es, e1, h1⟩ A1 T1 r1 => by
    have r1' := r1
    subst e1
    obtain ⟨a, dx, gs, ex, ha, hn, hr⟩ := r1'
    subst ex
    refine ⟨a, dx, gs, rfl, A1.sub _ _ ha, Hk1, [_], A1.sub, RpL.one r1, _, h1, fun y d Hk' H2' p s t r => ?_⟩
    obtain ⟨A', T'⟩ := A1.after s t
    exact q y d ρ1 Hk' H2' p A' (T1.trans T') r
end
end Dl
set_option Elab.async false
set_option linter.all false
set_option maxRecDepth 100000
set_option maxHeartbeats 1200000
/-! Rules for readings over data: iterators, comprehensions, targets, statements, own lists, defs. -/
namespace Dl
open PySem L2 StX
section
variable {K : PySem.W.Frag} {ρ : Env} {P : PD}
/-! ### iterators -/
theorem keep1 {Hk H : Hp} (s : Same Hk H) {d : D} {x : V} (r : Rp K Hk d x) : ∃ Hk2, Same Hk Hk2 ∧ Same Hk2 H ∧ (∀ a o, H a = some o → H a = some o) ∧ (∀ a, Hk2 a ≠ none → Hk a ≠ none ∨ H a = none) ∧ Rp K Hk2 d x :=
  ⟨Hk, Same.refl _, s, fun _ _ h => h, fun _ h => .inl h, r⟩
theorem goes_list {Hk : Hp} {a : Addr} {xs : List V} {ds : List D} (hs : SqL K Hk a xs) (hr : RpL K Hk ds xs) : Goes K (Itl K a) ds Hk := by
  refine ⟨fun i H hi s => ?_, fun H s => ⟨xs, s.seq hs, Nat.le_of_eq hr.length⟩, fun i H x H' Hk' d hd s1 s2 hy => ?_⟩
  · obtain ⟨y, h1, _⟩ := hr.get (List.getElem?_eq_getElem hi)
    exact ⟨xs, y, s.seq hs, h1⟩
  · obtain ⟨rfl, hx⟩ := hy
    obtain ⟨y, h1, h2⟩ := hr.get hd
    have e := (hx xs ((s1.trans s2).seq hs)).symm.trans h1
    obtain rfl := Option.some.inj e
    exact keep1 s2 (h2.mono s1)
theorem goes_tup {Hk : Hp} {a : Addr} {xs : List V} {ds : List D} (hs : SqT K Hk a xs) (hr : RpL K Hk ds xs) : Goes K (Itt K a) ds Hk := by
  refine ⟨fun i H hi s => ?_, fun H s => ⟨xs, sameT s hs, Nat.le_of_eq hr.length⟩, fun i H x H' Hk' d hd s1 s2 hy => ?_⟩
  · obtain ⟨y, h1, _⟩ := hr.get (List.getElem?_eq_getElem hi)
    exact ⟨xs, y, sameT s hs, h1⟩
  · obtain ⟨rfl, hx⟩ := hy
    obtain ⟨y, h1, h2⟩ := hr.get hd
    have e := (hx xs (sameT (s1.trans s2) hs)).symm.trans h1
    obtain rfl := Option.some.inj e
    exact keep1 s2 (h2.mono s1)
def nums (lo : Int) (n : Nat) : List D := (List.range n).map fun i => D.int (lo + (i : Nat))
theorem nums_len (lo : Int) (n : Nat) : (nums lo n).length = n := by unfold nums; rw [List.length_map, List.length_range]
theorem nums_get (lo : Int) (n : Nat) {i : Nat} (h : i < n) : (nums lo n)[i]? = some (.int (lo + (i : Nat))) := by
  unfold nums
  rw [List.getElem?_map, List.getElem?_range h]
  rfl
theorem nums_at {lo : Int} {n i : Nat} {d : D} (h : (nums lo n)[i]? = some d) : i < n ∧ d = .int (lo + (i : Nat)) := by
  have hi : i < n := by
    have := (List.getElem?_eq_some_iff.mp h).1
    rw [nums_len] at this
    exact this
  rw [nums_get lo n hi] at h
  exact ⟨hi, (Option.some.inj h).symm⟩
theorem goes_range {Hk : Hp} {lo : Int} {n : Nat} : Goes K (Itr lo n) (nums lo n) Hk := by
  refine ⟨fun i H hi s => by rw [nums_len] at hi; exact hi, fun H s => Nat.le_of_eq (nums_len lo n).symm, fun i H x H' Hk' d hd s1 s2 hy => ?_⟩
  obtain ⟨rfl, rfl⟩ := hy
  obtain ⟨hi, rfl⟩ := nums_at hd
  exact keep1 s2 rfl
/-- new pairs -/
theorem pair1 {Hk H H' : Hp} {T : Addr} {x y : V} {d e : D} (s : Same Hk H) (hT : H T = none) (h : H' = upd H T (.tup [x, y])) (r1 : Rp K Hk d x) (r2 : Rp K Hk e y) :
    ∃ Hk2, Same Hk Hk2 ∧ Same Hk2 H' ∧ (∀ a o, H a = some o → H' a = some o) ∧ (∀ a, Hk2 a ≠ none → Hk a ≠ none ∨ H a = none) ∧ Rp K Hk2 (.tup [d, e]) (.ref T) := by
  subst h
  have hk : Hk T = none := by
    cases q : Hk T with
    | none => rfl
    | some u => rw [s T u q] at hT; exact nomatch hT
  have e1 : Same Hk (upd Hk T (.tup [x, y])) := fun a u h => by rw [upd_ne (ne_of_none h hk)]; exact h
  refine ⟨upd Hk T (.tup [x, y]), e1, fun a u h => ?_, fun a o h => by rw [upd_ne (ne_of_none h hT)]; exact h, fun a h => ?_, ⟨T, [x, y], rfl, .inl (.inl upd_same), ⟨x, [y], rfl, r1.mono e1, RpL.one (r2.mono e1)⟩⟩⟩
  · by_cases q : a = T
    · subst q; rw [upd_same] at h ⊢; exact h
    · rw [upd_ne q] at h ⊢; exact s a u h
  · by_cases q : a = T
    · subst q; exact .inr hT
    · rw [upd_ne q] at h; exact .inl h
def pairs (ds es : List D) : List D := List.zipWith (fun d e => .tup [d, e]) ds es
theorem pairs_len (ds es : List D) : (pairs ds es).length = min ds.length es.length := List.length_zipWith
theorem pairs_at {ds es : List D} {i : Nat} {p : D} (h : (pairs ds es)[i]? = some p) : ∃ d e, ds[i]? = some d ∧ es[i]? = some e ∧ p = .tup [d, e] := by
  unfold pairs at h
  rw [List.getElem?_zipWith] at h
  cases h1 : ds[i]? with
  | none => rw [h1] at h; exact nomatch h
  | some d =>
    cases h2 : es[i]? with
    | none => rw [h1, h2] at h; exact nomatch h
    | some e =>
      rw [h1, h2] at h
      exact ⟨d, e, rfl, rfl, (Option.some.inj h).symm⟩
theorem goes_enum {Hk : Hp} {a : Addr} {xs : List V} {ds : List D} (hs : SqL K Hk a xs) (hr : RpL K Hk ds xs) : Goes K (Ite K a) (pairs (nums 0 ds.length) ds) Hk := by
  have hl : (pairs (nums 0 ds.length) ds).length = ds.length := by rw [pairs_len, nums_len, Nat.min_self]
  refine ⟨fun i H hi s => ?_, fun H s => ⟨xs, s.seq hs, by rw [hl]; exact Nat.le_of_eq hr.length⟩, fun i H x H' Hk' d hd s1 s2 hy => ?_⟩
  · rw [hl] at hi
    obtain ⟨y, h1, _⟩ := hr.get (List.getElem?_eq_getElem hi)
    exact ⟨xs, y, s.seq hs, h1⟩
  · obtain ⟨T, z, rfl, hT, e, hx⟩ := hy
    obtain ⟨d1, d2, g1, g2, rfl⟩ := pairs_at hd
    obtain ⟨hi, rfl⟩ := nums_at g1
    obtain ⟨y, h1, h2⟩ := hr.get g2
    have e2 := (hx xs ((s1.trans s2).seq hs)).symm.trans h1
    obtain rfl := Option.some.inj
        e2
    refine pair1 s2 hT e ?_ (h2.mono s1)
    show V.int (i : Nat) = V.int (0 + (i : Nat))
    rw [Int.zero_add]
theorem goes_zip {Hk : Hp} {a b : Addr} {xs ys : List V} {ds es : List D} (hs : SqL K Hk a xs) (hr : RpL K Hk ds xs) (hs' : SqL K Hk b ys) (hr' : RpL K Hk es ys) : Goes K (Itz K a b) (pairs ds es) Hk := by
  have l1 := hr.length
  have l2 := hr'.length
  refine ⟨fun i H hi s => ?_, fun H s => ⟨xs, ys, s.seq hs, s.seq hs', ?_⟩, fun i H x H' Hk' d hd s1 s2 hy => ?_⟩
  · rw [pairs_len] at hi
    obtain ⟨y, h1, _⟩ := hr.get (List.getElem?_eq_getElem (by omega : i < ds.length))
    obtain ⟨z, h2, _⟩ := hr'.get (List.getElem?_eq_getElem (by omega : i < es.length))
    exact ⟨xs, ys, y, z, s.seq hs, s.seq hs', h1, h2⟩
  · rw [pairs_len, l1, l2]; omega
  · obtain ⟨T, z1, z2, rfl, hT, e, hx, hx'⟩ := hy
    obtain ⟨d1, d2, g1, g2, rfl⟩ := pairs_at hd
    obtain ⟨y, h1, h2⟩ := hr.get g1
    obtain ⟨y', h1', h2'⟩ := hr'.get g2
    obtain rfl := Option.some.inj ((hx xs ((s1.trans s2).seq hs)).symm.trans h1)
    obtain rfl := Option.some.inj ((hx' ys ((s1.trans s2).seq hs')).symm.trans h1')
    exact pair1 s2 hT e (h2.mono s1) (h2'.mono s1)
/-- a text's signs -/
def signsOf (z : Str) : List D := z.cps.toList.map fun c => D.str ⟨#[c]⟩
theorem goes_str {Hk : Hp} {z : Str} : Goes K (Its z) (signsOf z) Hk := by
  have hl : (signsOf z).length = z.cps.size := by unfold signsOf; rw [List.length_map, Array.length_toList]
  refine ⟨fun i H hi s => by rw [hl] at hi; exact hi, fun H s => Nat.le_of_eq hl.symm, fun i H x H' Hk' d hd s1 s2 hy => ?_⟩
  obtain ⟨rfl, c, hc, rfl⟩ := hy
  unfold signsOf at hd
  rw [List.getElem?_map, Array.getElem?_toList, hc] at hd
  obtain rfl := Option.some.inj hd
  exact keep1 s2 rfl
variable {R : List D → Env → Prop} {ta : TE} {t : TA}
theorem i_list (h : wE K ta ρ fun d ρ1 => ∃ ds, lst? d = some ds ∧ R ds ρ1) : wI K (iList K ta) ρ R := fun σ Hk H2 A Q q => h σ Hk H2 A _ fun x d ρ1 Hk1 H21 ⟨ds, e, p⟩ A1 T1 r1 => by
  obtain ⟨a, xs, rfl, hs, hr⟩ := seqOf (Same.refl _) r1 e
  exact ⟨a, rfl, ⟨xs, A1.sub.seq hs⟩, q _ ds ρ1 Hk1 H21 p A1 T1 (goes_list hs hr)⟩
theorem i_tup (h : wE K ta ρ fun d ρ1 => ∃ ds, d = .tup ds ∧ R ds ρ1) : wI K (iTup K ta) ρ R := fun σ Hk H2 A Q q => h σ Hk H2 A _ fun x d ρ1 Hk1 H21 ⟨ds, e, p⟩ A1 T1 r1 => by
  subst e
  obtain ⟨a, xs, rfl, hs, hr⟩ := r1
  exact ⟨a, rfl, ⟨xs, sameT A1.sub hs⟩, q _ ds ρ1 Hk1 H21 p A1 T1 (goes_tup hs hr)⟩
theorem i_rng1 (h : wA K t ρ fun ds ρ1 => ∃ j : Int, ds = [.int j] ∧ (-100000 ≤ j ∧ j ≤ 100000) ∧ R (nums 0 j.toNat) ρ1) : wI K (iRng1 t) ρ R := fun σ Hk H2 A Q q => h σ Hk H2 A _ fun xs ds ρ1 Hk1 H21 ⟨j, e, hj, p⟩ A1 T1 r1 => by
  subst e
  obtain ⟨y, ys, rfl, r2, hn⟩ := r1
  obtain rfl : ys = [] := hn
  obtain rfl : y = .int j := r2
  exact ⟨j, rfl, by omega, by omega, q _ _ ρ1 Hk1 H21 p A1 T1 goes_range⟩
theorem i_rng2 (h : wA K t ρ fun ds ρ1 => ∃ i j : Int, ds = [.int i, .int j] ∧ (-100000 ≤ i ∧ i ≤ 100000 ∧ -100000 ≤ j ∧ j ≤ 100000) ∧ R (nums i (j - i).toNat) ρ1) : wI K (iRng2 t) ρ R := fun σ Hk H2 A Q q => h σ Hk H2 A _ fun xs ds ρ1 Hk1 H21 ⟨i, j, e, hj, p⟩ A1 T1 r1 => by
  subst e
  obtain ⟨y, ys, rfl, r2, z, zs, rfl, r3, hn⟩ := r1
  obtain rfl : zs = [] := hn
  obtain rfl : y = .int i := r2
  obtain rfl : z = .int j := r3
  exact ⟨i, j, rfl, ⟨by omega, by omega, by omega, by omega⟩, q _ _ ρ1 Hk1 H21 p A1 T1 goes_range⟩
theorem i_enum (h : wA K t ρ fun ds ρ1 => ∃ d es, ds = [d] ∧ lst? d = some es ∧ R (pairs (nums 0 es.length) es) ρ1) : wI K (iEnum K t) ρ R := fun σ Hk H2 A Q q => h σ Hk H2 A _ fun xs ds ρ1 Hk1 H21 ⟨d, es, e, e2, p⟩ A1 T1 r1 => by
  subst e
  obtain ⟨y, ys, rfl, r2, hn⟩ := r1
  obtain ⟨a, zs, rfl, hs, hr⟩ := seqOf (Same.refl _) r2 e2
  obtain rfl : ys = [] := hn
  exact ⟨a, zs, rfl, A1.sub.seq hs, q _ _ ρ1 Hk1 H21 p A1 T1 (goes_enum hs hr)⟩
theorem i_zip (h : wA K t ρ fun ds ρ1 => ∃ d d' es fs, ds = [d, d'] ∧ lst? d = some es ∧ lst? d' = some fs ∧ R (pairs es fs) ρ1) : wI K (iZip K t) ρ R := fun σ Hk H2 A Q q => h σ Hk H2 A _ fun xs ds ρ1 Hk1 H21 ⟨d, d', es, fs, e, e2, e3, p⟩ A1 T1 r1 => by
  subst e
  obtain ⟨y, ys, rfl, r2, z, ws, rfl, r3, hn⟩ := r1
  obtain ⟨a, zs, rfl, hs, hr⟩ := seqOf (Same.refl _) r2 e2
  obtain ⟨b, vs, rfl, hs', hr'⟩ := seqOf (Same.refl _) r3 e3
  obtain rfl : ws = [] := hn
  exact ⟨a, b, zs, vs, rfl, A1.sub.seq hs, A1.sub.seq hs', q _ _ ρ1 Hk1 H21 p A1 T1 (goes_zip hs hr hs' hr')⟩
theorem i_str (h : wE K ta ρ fun d ρ1 => ∃ z, d = .str z ∧ R (signsOf z) ρ1) : wI K (iStr ta) ρ R := fun σ Hk H2 A Q q => h σ Hk H2 A _ fun x d ρ1 Hk1 H21 ⟨z, e, p⟩ A1 T1 r1 => by
  subst e
  exact ⟨z, r1, q _ _ ρ1 Hk1 H21 p A1 T1 goes_str⟩
/-! ### targets -/
theorem At.set {σ : L2.St} {Hk H2 : Hp} (A : At K ρ σ Hk H2) {i : Nat} {d : D} {y : V} (r : Rp K Hk d y) : At K (ρ.set i (.dat d)) (σ.set i (some y)) Hk H2 := by
  refine ⟨A.sub, by rw [List.length_set, List.length_set, A.len], fun j s o h1 h2 => ?_, fun j l p ds es h1 h2 h3 h4 => ?_⟩
  · by_cases q : i = j
    · subst q
      have hi : i < ρ.length := by
        have := (List.getElem?_eq_some_iff.mp h1).1
        rw [List.length_set] at this
        exact this
      rw [List.getElem?_set_self hi] at h1
      rw [List.getElem?_set_self (by rw [← A.len]; exact hi)] at h2
      obtain rfl := Option.some.inj h1
      obtain rfl := Option.some.inj h2
      exact ⟨y, rfl, r⟩
    · rw [List.getElem?_set_ne q] at h1 h2
      exact A.sl j s o h1 h2
  · have g : ∀ (j : Nat) ds, (ρ.set i (.dat d))[j]? = some (.own ds) → i ≠ j := fun j ds h e => by
      subst e
      have hi : i < ρ.length := by
        have := (List.getElem?_eq_some_iff.mp h).1
        rw [List.length_set] at this
        exact this
      rw [List.getElem?_set_self hi] at h
      exact nomatch h
    have g1 := g j _ h1
    have g2 := g l _ h3
    rw [List.getElem?_set_ne g1] at h1 h2
    rw [List.getElem?_set_ne g2] at h3 h4
    exact A.ds j l p ds es h1 h2 h3 h4
theorem own_set {σ : L2.St} {i : Nat} {d : D} {y : Option V} {a : Addr} (h : Own (ρ.set i (.dat d)) (σ.set i y) a) : Own ρ σ a := by
  obtain ⟨j, ds, h1, h2⟩ := h
  have g : i ≠ j := fun e => by
    subst e
    have hi : i < ρ.length := by
      have := (List.getElem?_eq_some_iff.mp h1).1
      rw [List.length_set] at this
      exact this
    rw [List.getElem?_set_self hi] at h1
    exact nomatch h1
  rw [List.getElem?_set_ne g] at h1 h2
  exact ⟨j, ds, h1, h2⟩
theorem Tr.lose {O O' O'' : Addr → Prop} {Hk H2 Hk' H2' : Hp} (t : Tr O Hk H2 O' Hk' H2') (h : ∀ a, O'' a → O' a) : Tr O Hk H2 O'' Hk' H2' := ⟨t.ex, t.fro, t.new, fun a z => t.own a (h a z)⟩
theorem wipe_set {σ : L2.St} {i : Nat} {y : Option V} : ∀ {js : List Nat}, i ∈ js → wipe (σ.set i y) js = wipe σ js
  | [], h => nomatch h
  | j :: js, h => by
    show (wipe (σ.set i y) js).set j none = (wipe σ js).set j none
    by_cases q : i ∈ js
    · rw [wipe_set q]
    · obtain rfl : i = j := (List.mem_cons.mp h).elim id fun z => absurd z q
      have e : ∀ js : List Nat, i ∉ js → wipe (σ.set i y) js = (wipe σ js).set i y := fun js => by
        induction js with
        | nil => intro _; rfl
        | cons k ks ih =>
          intro hn
          show (wipe (σ.set i y) ks).set k none = ((wipe σ ks).set k none).set i y
          rw [ih fun z => hn (List.mem_cons_of_mem _ z), List.set_comm _ _ (fun z => hn (by rw [z]; exact List.mem_cons_self))]
      rw [e js q, List.set_set]
theorem g_name {js : List Nat} {i : Nat} {d : D} {N : Env → Prop} (hj : i ∈ js) (n : N (ρ.set i (.dat d))) : wG K js (gName i) d ρ N := fun σ Hk H2 y A r Q q =>
  q _ _ Hk H2 n (A.set r) (Tr.refl.lose fun a h => own_set h) (wipe_set hj)
theorem g_tup {js : List Nat} {n : Nat} {g : TGs} {d : D} {N : Env → Prop} (h : ∃ ds, d = .tup ds ∧ ds.length = n ∧ wGs K js g ds ρ N) : wG K js (gTup K n g) d ρ N := fun σ Hk H2 y A r Q q => by
  obtain ⟨ds, rfl, hl, hg⟩ := h
  obtain ⟨a, xs, rfl, hs, hr⟩ := r
  exact ⟨a, xs, rfl, sameT A.sub hs, hr.length.trans hl, hg σ Hk H2 xs A hr Q q⟩
theorem g_nil {js : List Nat} {N : Env → Prop} (n : N ρ) : wGs K js gNil [] ρ N := fun σ Hk H2 ys A r Q q => ⟨r, q ρ σ Hk H2 n A .refl rfl⟩
theorem g_cons {js : List Nat} {g : TG} {gs : TGs} {d : D} {ds : List D} {N : Env → Prop} (h : wG K js g d ρ fun ρ1 => wGs K js gs ds ρ1 N) : wGs K js (gCons g gs) (d :: ds) ρ N := fun σ Hk H2 ys A r Q q => by
  obtain ⟨y, zs, rfl, r1, r2⟩ := r
  exact ⟨y, zs, rfl, h σ Hk H2 y A r1 _ fun ρ1 σ1 Hk1 H21 h1 A1 T1 w1 => h1 σ1 Hk1 H21 zs A1 (r2.mono T1.ex) Q fun ρ2 σ2 Hk2 H22 n A2 T2 w2 => q ρ2 σ2 Hk2 H22 n A2 (T1.trans T2) (w2.trans w1)⟩
/-! ### comprehensions -/
def wipeS (ρ : Env) : List Nat → Env
  | [] => ρ
  | j :: js => (wipeS ρ js).set j .any
theorem At.setAny {σ : L2.St} {Hk H2 : Hp} (A : At K ρ σ Hk H2) (i : Nat) (o : Option V) : At K (ρ.set i .any) (σ.set i o) Hk H2 := by
  have g : ∀ (j : Nat) ds, (ρ.set i .any)[j]? = some (.own ds) → i ≠ j := fun j ds h e => by
    subst e
    have hi : i < ρ.length := by
      have := (List.getElem?_eq_some_iff.mp h).1
      rw [List.length_set] at this
      exact this
    rw [List.getElem?_set_self hi] at h
    exact nomatch h
  refine ⟨A.sub, by rw [List.length_set, List.length_set, A.len], fun j s u h1 h2 => ?_, fun j l p ds es h1 h2 h3 h4 => ?_⟩
  · by_cases q : i = j
    · subst q
      have hi : i < ρ.length := by
        have := (List.getElem?_eq_some_iff.mp h1).1
        rw [List.length_set] at this
        exact this
      rw [List.getElem?_set_self hi] at h1
      obtain rfl := Option.some.inj h1
      trivial
    · rw [List.getElem?_set_ne q] at h1 h2
      exact A.sl j s u h1 h2
  · have g1 := g j _ h1
    have g2 := g l _ h3
    rw [List.getElem?_set_ne g1] at h1 h2
    rw [List.getElem?_set_ne g2] at h3 h4
    exact A.ds j l p ds es h1 h2 h3 h4
theorem At.wipe {Hk H2 : Hp} : ∀ {σ : L2.St} (vs : List Nat), At K ρ σ Hk H2 → At K (wipeS ρ vs) (L2.wipe σ vs) Hk H2
  | σ, [], A => A
  | σ, v :: vs, A => (At.wipe vs A).setAny v none
/-- what a slot list says of the slots outside vs -/
theorem wipeS_get {vs : List Nat} {i : Nat} {s : Sl} : (wipeS ρ vs)[i]? = some s → s = .any ∨ (i ∉ vs ∧ ρ[i]? = some s) := by
  induction vs with
  | nil => intro h; exact .inr ⟨List.not_mem_nil, h⟩
  | cons v vs ih =>
    intro h
    have h' : ((wipeS ρ vs).set v .any)[i]? = some s := h
    by_cases q : v = i
    · subst q
      have hi : v < (wipeS ρ vs).length := by
        have := (List.getElem?_eq_some_iff.mp h').1
        rw [List.length_set] at this
        exact this
      rw [List.getElem?_set_self hi] at h'
      exact .inl (Option.some.inj h').symm
    · rw [List.getElem?_set_ne q] at h'
      rcases ih h' with z | ⟨z1, z2⟩
      · exact .inl z
      · exact .inr ⟨fun z => (List.mem_cons.mp z).elim (fun e => q e.symm) z1, z2⟩
theorem wipe_out {σ : L2.St} {vs : List Nat} {i : Nat} (h : i ∉ vs) : (wipe σ vs)[i]? = σ[i]? := by
  induction vs with
  | nil => rfl
  | cons v vs ih =>
    show ((wipe σ vs).set v none)[i]? = σ[i]?
    rw [List.getElem?_set_ne (fun z => h (by rw [z]; exact List.mem_cons_self)), ih fun z => h (List.mem_cons_of_mem _ z)]
theorem wipe_wipe (τ : L2.St) (js : List Nat) : wipe (wipe τ js) js = wipe τ js := by
  refine List.ext_getElem? fun j =>
      ?_
  by_cases q : j ∈ js
  · have z : ∀ υ : L2.St, υ.length = τ.length → (wipe υ js)[j]? = if j < τ.length then some none else none := fun υ hυ => by
      by_cases hj : j < τ.length
      · rw [if_pos hj]
        cases z2 : (wipe υ js)[j]? with
        | none =>
          rw [List.getElem?_eq_none_iff, wipe_length] at z2
          omega
        | some o =>
          cases o with
          | none => rfl
          | some v => exact absurd q (wipe_some z2).2
      · rw [if_neg hj]
        exact List.getElem?_eq_none (by rw [wipe_length]; omega)
    rw [z (wipe τ js) (wipe_length _ _), z τ rfl]
  · rw [wipe_out q]
theorem wipe_eq {σ σ' : L2.St} {vs : List Nat} (e : wipe σ' vs = wipe σ vs) {i : Nat} (h : i ∉ vs) : σ'[i]? = σ[i]? := by
  rw [← wipe_out h, e, wipe_out h]
theorem At.unwipe {σ σ' : L2.St} {Hk H2 : Hp} {vs : List Nat} (A : At K ρ σ' Hk H2) (e : L2.wipe σ' vs = L2.wipe σ vs) : At K (wipeS ρ vs) σ Hk H2 := by
  have hl : (wipeS ρ vs).length = ρ.length := by
    induction vs with
    | nil => rfl
    | cons v vs ih =>
      show ((wipeS ρ vs).set v .any).length = _
      rw [List.length_set]
      clear e
      clear ih
      induction vs with
      | nil => rfl
      | cons w ws ih => show ((wipeS ρ ws).set w .any).length = _; rw [List.length_set, ih]
  refine ⟨A.sub, ?_, fun i s o h1 h2 => ?_, fun i j p ds es h1 h2 h3 h4 => ?_⟩
  · rw [hl, A.len]
    have := congrArg List.length e
    rw [wipe_length, wipe_length] at this
    exact this
  · rcases wipeS_get h1 with z | ⟨z1, z2⟩
    · subst z; trivial
    · exact A.sl i s o z2 (by rw [wipe_eq e z1]; exact h2)
  · rcases wipeS_get h1 with z | ⟨z1, z2⟩
    · exact nomatch z
    · rcases wipeS_get h3 with y | ⟨y1, y2⟩
      · exact nomatch y
      · exact A.ds i j p ds es z2 (by rw [wipe_eq e z1]; exact h2) y2 (by rw [wipe_eq e y1]; exact h4)
theorem own_unwipe {σ σ' : L2.St} {vs : List Nat} (e : wipe σ' vs = wipe σ vs) {a : Addr} (h : Own (wipeS ρ vs) σ a) : Own ρ σ' a := by
  obtain ⟨i, ds, h1, h2⟩ := h
  rcases wipeS_get h1 with z | ⟨z1, z2⟩
  · exact nomatch z
  · exact ⟨i, ds, z2, by rw [wipe_eq e z1]; exact h2⟩
theorem own_wipe {σ : L2.St} {vs : List Nat} {a : Addr} (h : Own (wipeS ρ vs) (wipe σ vs) a) : Own ρ σ a := by
  obtain ⟨i, ds, h1, h2⟩ := h
  rcases wipeS_get h1 with z | ⟨z1, z2⟩
  · exact nomatch z
  · exact ⟨i, ds, z2, by rw [wipe_out z1] at h2; exact h2⟩
/-- [e for g in it if t]: Pv by the turn, what is made so far, the slots -/
def LcD (K : PySem.W.Frag) (g : TG) (tt : TT) (te : TE) (vs : List Nat) (P : PD) (ds : List D) (ρ1 : Env) : Prop := ∃ Pv : Nat → List D → Env → Prop, ds.length ≤ 100000 ∧ Pv 0 [] ρ1 ∧ wipeS ρ1 vs = ρ1 ∧
  (∀ i d acc ρ2, ds[i]? = some d → Pv i acc ρ2 → wipeS ρ2 vs = ρ2 → wG K vs g d ρ2 fun ρ3 => wT K tt ρ3 fun b ρ4 => if b = true then wE K te ρ4 fun e ρ5 => wipeS (wipeS ρ5 vs) vs = wipeS ρ5 vs ∧ Pv (i + 1) (acc ++ [e]) (wipeS ρ5 vs) else wipeS (wipeS ρ4 vs) vs = wipeS ρ4 vs ∧ Pv (i + 1) acc (wipeS ρ4 vs)) ∧
  ∀ acc ρ2, Pv ds.length acc ρ2 → P (.lst acc) ρ2
theorem w_lc {wi : TI} {g : TG} {tt : TT} {te : TE} {vs : List Nat} (hi : wI K wi ρ (LcD K g tt te vs P)) : wE K (tLc wi g tt te vs) ρ P := fun σ Hk H2 A Q q =>
  hi σ Hk H2 A _ fun J ds ρ1 Hk1 H21 ⟨Pv, hn, h0, hw0, hs, hd⟩ A1 T1 G Dl hD => by
    -- W: the turn's state
    have hDk := A1.free hD
    have hDo := A1.notOwn hD
    refine ⟨fun i m H => m = ds.length - i ∧ i ≤ ds.length ∧ ∃ acc ρ2 Hk2 xs, acc.length ≤ i ∧ Pv i acc ρ2 ∧ wipeS ρ2 vs = ρ2 ∧ At K ρ2 σ Hk2 H ∧ Tr (Own ρ1 σ) Hk1 H21 (Own ρ2 σ) Hk2 H ∧ Hk2 Dl = none ∧ ¬ Own ρ2 σ Dl ∧ H Dl = some (.lst xs) ∧ RpL K Hk2 acc xs,
      ⟨ds.length, by simp, Nat.zero_le _, [], ρ1, Hk1, [], Nat.le_refl _, h0, hw0, A1.hid _ hD, ⟨Same.refl _, fun a o h _ => by rw [upd_ne (ne_of_none h hD)]; exact h, fun a h => .inl h, fun a h => .inl h⟩, hDk, hDo, upd_same, rfl⟩, ?_⟩
    rintro i m H ⟨rfl, hi, acc, ρ2, Hk2, xs, hacc, hp, hw, A2, T2, hk, ho, hx, hr⟩
    by_cases hlt : i < ds.length
    · refine .inr ⟨G.go i H hlt (T2.ex.trans A2.sub), fun H' => i + 1 ≤ ds.length ∧ ∃ acc ρ2 Hk2 xs, acc.length ≤ i + 1 ∧ Pv (i + 1) acc ρ2 ∧ wipeS ρ2 vs = ρ2 ∧ At K ρ2 σ Hk2 H' ∧ Tr (Own ρ1 σ) Hk1 H21 (Own ρ2 σ) Hk2 H' ∧ Hk2 Dl = none ∧ ¬ Own ρ2 σ Dl ∧ H' Dl = some (.lst xs) ∧ RpL K Hk2 acc xs, fun H' h => ⟨ds.length - (i + 1), by omega, rfl, h⟩, fun x H' hy => ?_⟩
      obtain ⟨Hk3, s1, s2, k1, n1, rx⟩ := G.yld i H x H' Hk2 _ (List.getElem?_eq_getElem hlt) T2.ex A2.sub hy
      have A3 : At K ρ2 σ Hk3 H' := A2.grow s1 s2 k1 n1
      have T3 : Tr (Own ρ2 σ) Hk2 H (Own ρ2 σ) Hk3 H' := ⟨s1, fun a o h _ => k1 a o h, fun a h => (n1 a h).imp id .inl, fun a h => .inl h⟩
      have A4 : At K ρ2 (wipe σ vs) Hk3 H' := by
        have z := At.wipe vs A3
        rw [hw] at z
        exact z
      have ow : ∀ a, Own ρ2 (wipe σ vs) a → Own ρ2 σ a := fun a h => by
        have h' : Own (wipeS ρ2 vs) (wipe σ vs) a := by rw [hw]; exact h
        exact own_wipe h'
      have wo : ∀ a, Own ρ2 σ a → Own ρ2 (wipe σ vs) a := fun a ⟨j, es, z1, z2⟩ => by
        refine ⟨j, es, z1, ?_⟩
        have z3 : (wipeS ρ2 vs)[j]? = some (.own es) := by rw [hw]; exact z1
        rcases wipeS_get z3 with y | ⟨y, _⟩
        · exact nomatch y
        · rw [wipe_out y]; exact z2
      have hDH' : H' Dl = some (.lst xs) := k1 _ _ hx
      have hk3 : Hk3 Dl = none := by
        cases z : Hk3 Dl with
        | none => rfl
        | some u =>
          rcases n1 Dl (by rw [z]; exact fun y => nomatch y) with y | y
          · exact absurd hk y
          · rw [hx] at y; exact nomatch y
      refine hs i _ acc ρ2 (List.getElem?_eq_getElem hlt) hp hw (wipe σ vs) Hk3 H' x A4 rx _ fun ρ3 σ2 Hk4 H4 h4 A5 T5 w5 => ⟨?_, ?_⟩
      · exact w5.trans (wipe_wipe σ vs)
      · -- the tests, the element
        have e2 : wipe σ2 vs = wipe σ vs := w5.trans (wipe_wipe σ vs)
        have T5' : Tr (Own ρ2 σ) Hk3 H' (Own ρ3 σ2) Hk4 H4 := ⟨T5.ex, fun a o h z => T5.fro a o h fun y => z (ow a y), fun a h => (T5.new a h).imp id fun z => z.imp id (ow a), fun a h => (T5.own a h).imp (ow a) id⟩
        have keepD : ∀ {O' : Addr → Prop} {Hk5 H5 : Hp}, Tr (Own ρ2 σ) Hk3 H' O' Hk5 H5 → H5 Dl = some (.lst xs) ∧ Hk5 Dl = none ∧ ¬ O' Dl := fun {O' Hk5 H5} T => by
          refine ⟨T.fro _ _ hDH' ho, ?_, fun z => ?_⟩
          · cases z : Hk5 Dl with
            | none => rfl
            | some u =>
              rcases T.new Dl (by rw [z]; exact fun y => nomatch y) with y | y | y
              · exact absurd hk3 y
              · rw [hDH'] at y; exact nomatch y
              · exact absurd y ho
          · rcases T.own Dl z with y | y
            · exact ho y
            · rw [hDH'] at y; exact nomatch y
        refine h4 σ2 Hk4 H4 A5 _ fun b ρ4 Hk5 H5 h5 A6 T6 => ?_
        cases b with
        | true =>
          refine (show wE K te ρ4 _ from h5) σ2 Hk5 H5 A6 _ fun y e ρ5 Hk6 H6 ⟨hw6, h6⟩ A7 T7 r7 => ?_
          have TT : Tr (Own ρ2 σ) Hk3 H' (Own ρ5 σ2) Hk6 H6 := (T5'.trans T6).trans T7
          obtain ⟨k2, k3, k4⟩ := keepD TT
          refine ⟨xs, k2, Nat.lt_of_le_of_lt (by rw [hr.length]; exact Nat.le_trans hacc (Nat.le_trans (Nat.le_of_lt hlt) hn)) (by decide), hlt, acc ++ [e], wipeS ρ5 vs, Hk6, xs ++ [y], by rw [List.length_append]; exact Nat.succ_le_succ hacc, h6, hw6, ?_, ?_, k3, fun z => k4 (own_unwipe e2 z), upd_same, ((hr.mono (s1.trans TT.ex)).app (RpL.one r7))⟩
          · have A8 := A7.unwipe e2
            refine ⟨fun a o h => ?_, A8.len, fun j s o z1 z2 => ?_, A8.ds⟩
            · rw [upd_ne (fun z => by rw [z, k3] at h; exact nomatch h)]
              exact A8.sub a o h
            · have z3 := A8.sl j s o z1 z2
              cases s with
              | any => trivial
              | dat d => exact z3
              | own es =>
                obtain ⟨p, zs, q1, q2, q3, q4⟩ := z3
                refine ⟨p, zs, q1, q2, ?_, q4⟩
                rw [upd_ne (fun z => k4 (own_unwipe e2 ⟨j, es, z1, by rw [← z, ← q1]; exact z2⟩))]
                exact q3
          · have T8 : Tr (Own ρ1 σ) Hk1 H21 (Own ρ5 σ2) Hk6 H6 := (T2.trans T3).trans TT
            have T9 := T8.lose (O'' := Own (wipeS ρ5 vs) σ) fun a h => own_unwipe e2 h
            refine ⟨T9.ex, fun a o h z => ?_, T9.new, T9.own⟩
            rw [upd_ne (fun y => by rw [y, hD] at h; exact nomatch h)]
            exact T9.fro a o h z
        | false =>
          obtain ⟨hw6, h6⟩ := (show wipeS (wipeS ρ4 vs) vs = wipeS ρ4 vs ∧ Pv (i + 1) acc (wipeS ρ4 vs) from h5)
          have TT : Tr (Own ρ2 σ) Hk3 H' (Own ρ4 σ2) Hk5 H5 := T5'.trans T6
          obtain ⟨k2, k3, k4⟩ := keepD TT
          exact ⟨hlt, acc, wipeS ρ4 vs, Hk5, xs, Nat.le_succ_of_le hacc, h6, hw6, A6.unwipe e2, ((T2.trans T3).trans TT).lose fun a h => own_unwipe e2 h, k3, fun z => k4 (own_unwipe e2 z), k2, hr.mono (s1.trans TT.ex)⟩
    · have e : i = ds.length := by omega
      subst e
      refine .inl ⟨G.stop H (T2.ex.trans A2.sub), ?_⟩
      -- the new list becomes known
      have s1 : Same Hk2 (upd Hk2 Dl (.lst xs)) := fun a u h => by rw [upd_ne (ne_of_none h hk)]; exact h
      have n1 : ∀ a, upd Hk2 Dl (.lst xs) a ≠ none → Hk2 a ≠ none ∨ a = Dl := fun a h => by
        by_cases z : a = Dl
        · exact .inr z
        · rw [upd_ne z] at h; exact .inl h
      have A9 : At K ρ2 σ (upd Hk2 Dl (.lst xs)) H := by
        refine ⟨fun a u h => ?_, A2.len, fun j s o z1 z2 => ?_, A2.ds⟩
        · by_cases z : a = Dl
          · subst z; rw [upd_same] at h; rw [hx]; exact h
          · rw [upd_ne z] at h; exact A2.sub a u h
        · have z3 := A2.sl j s o z1 z2
          cases s with
          | any => trivial
          | dat d =>
            obtain ⟨y, q1, q2⟩ := z3
            exact ⟨y, q1, q2.mono s1⟩
          | own es =>
            obtain ⟨p, zs, q1, q2, q3, q4⟩ := z3
            refine ⟨p, zs, q1, ?_, q3, q4.mono s1⟩
            rw [upd_ne (fun z => ho ⟨j, es, z1, by rw [← z, ← q1]; exact z2⟩)]
            exact q2
      refine q (.ref Dl) (.lst acc) ρ2 _ H (hd acc ρ2 hp) A9 (T1.trans ⟨T2.ex.trans s1, T2.fro, fun a h => ?_, T2.own⟩) ⟨Dl, xs, rfl, upd_same, hr.mono s1⟩
      rcases n1 a h with z | z
      · exact T2.new a z
      · subst z
        exact .inr (.inl hD)
end
end Dl
set_option Elab.async false
set_option linter.all false
set_option maxRecDepth 100000
set_option maxHeartbeats 1200000
/-! Rules for readings over data: statements, own lists, defs. -/
namespace Dl
open PySem L2 StX
section
variable {K : PySem.W.Frag} {ρ : Env} {P : PD} {E : De} {te ta : TE} {t u : TS} {c : TT}
/-! ### statements -/
theorem wS.use {σ : L2.St} {Hk H2 : Hp} {F : Ends} {O : Addr → Prop} {Hk0 H0 : Hp} (h : wS K t ρ E) (A : At K ρ σ Hk H2) (T : Tr O Hk0 H0 (Own ρ σ) Hk H2)
    (n : ∀ ρ' σ' Hk' H2', E.nx ρ' → At K ρ' σ' Hk' H2' → Tr O Hk0 H0 (Own ρ' σ') Hk' H2' → F.nx σ' H2')
    (r : ∀ y d ρ' σ' Hk' H2', E.rt d ρ' → At K ρ' σ' Hk' H2' → Tr O Hk0 H0 (Own ρ' σ') Hk' H2' → Rp K Hk' d y → F.rt y H2')
    (b : ∀ ρ' σ' Hk' H2', E.bk ρ' → At K ρ' σ' Hk' H2' → Tr O Hk0 H0 (Own ρ' σ') Hk' H2' → F.bk σ' H2')
    (k : ∀ ρ' σ' Hk' H2', E.ct ρ' → At K ρ' σ' Hk' H2' → Tr O Hk0 H0 (Own ρ' σ') Hk' H2' → F.ct σ' H2') : t F σ H2 :=
  h σ Hk H2 F A (fun ρ' σ' Hk' H2' p A' T' => n ρ' σ' Hk' H2' p A' (T.trans T')) (fun y d ρ' σ' Hk' H2' p A' T' => r y d ρ' σ' Hk' H2' p A' (T.trans T'))
    (fun ρ' σ' Hk' H2' p A' T' => b ρ' σ' Hk' H2' p A' (T.trans T')) (fun ρ' σ' Hk' H2' p A' T' => k ρ' σ' Hk' H2' p A' (T.trans T'))
theorem w_seq (h : wS K t ρ ⟨fun ρ1 => wS K u ρ1 E, E.rt, E.bk, E.ct⟩) : wS K (tSeq t u) ρ E := fun σ Hk H2 F A n r b k =>
  h σ Hk H2 _ A (fun ρ1 σ1 Hk1 H21 p A1 T1 => wS.use (F := F) p A1 T1 n r b k) r b k
theorem w_next (p : E.nx ρ) : wS K tNext ρ E := fun σ Hk H2 F A n r b k => n ρ σ Hk H2 p A .refl
theorem w_ret (h : wE K te ρ E.rt) : wS K (tRet te) ρ E := fun σ Hk H2 F A n r b k => h σ Hk H2 A _ fun y d ρ1 Hk1 H21 p A1 T1 r1 => r y d ρ1 σ Hk1 H21 p A1 T1 r1
theorem w_retN (p : E.rt .non ρ) : wS K tRetN ρ E := fun σ Hk H2 F A n r b k => r .non _ ρ σ Hk H2 p A .refl rfl
theorem w_ifS (h : wT K c ρ fun b ρ1 => if b = true then wS K t ρ1 E else wS K u ρ1 E) : wS K (tIfS c t u) ρ E := fun σ Hk H2 F A n r b k => h σ Hk H2 A _ fun x ρ1 Hk1 H21 p A1 T1 => by
  cases x with
  | true => exact wS.use (show wS K t ρ1 E from p) A1 T1 n r b k
  | false => exact wS.use (show wS K u ρ1 E from p) A1 T1 n r b k
theorem w_asg {js : List Nat} {g : TG} (h : wE K te ρ fun d ρ1 => wG K js g d ρ1 E.nx) : wS K (tAsg te g) ρ E := fun σ Hk H2 F A n r b k =>
  h σ Hk H2 A _ fun y d ρ1 Hk1 H21 p A1 T1 r1 => p σ Hk1 H21 y A1 r1 _ fun ρ2 σ2 Hk2 H22 p2 A2 T2 _ => n ρ2 σ2 Hk2 H22 p2 A2 (T1.trans T2)
theorem w_set {i : Nat} (h : wE K te ρ fun d ρ1 => E.nx (ρ1.set i (.dat d))) : wS K (tAsg te (gName i)) ρ E := w_asg (js := [i]) (h.mono fun d ρ1 p => g_name (List.mem_cons_self) p)
theorem w_par {i j : Nat} {ta : TA} (h : wA K ta ρ fun ds ρ1 => ∃ d e, ds = [d, e] ∧ E.nx ((ρ1.set i (.dat d)).set j (.dat e))) : wS K (tPar i j ta) ρ E := fun σ Hk H2 F A n r b k =>
  h σ Hk H2 A _ fun ys ds ρ1 Hk1 H21 ⟨d, e, e1, p⟩ A1 T1 r1 => by
    subst e1
    obtain ⟨y, ys, rfl, r2, z, zs, rfl, r3, hn⟩ := r1
    obtain rfl : zs = [] := hn
    exact ⟨y, z, rfl, n _ _ Hk1 H21 p ((A1.set r2).set r3) (T1.lose fun a h => own_set (own_set h))⟩
theorem w_par3 {i j l : Nat} {ta : TA} (h : wA K ta ρ fun ds ρ1 => ∃ d e f, ds = [d, e, f] ∧ E.nx (((ρ1.set i (.dat d)).set j (.dat e)).set l (.dat f))) : wS K (tPar3 i j l ta) ρ E := fun σ Hk H2 F A n r b k =>
  h σ Hk H2 A _ fun ys ds ρ1 Hk1 H21 ⟨d, e, f, e1, p⟩ A1 T1 r1 => by
    subst e1
    obtain ⟨y, ys, rfl, r2, z, zs, rfl, r3, w, ws, rfl, r4, hn⟩ := r1
    obtain rfl : ws = [] := hn
    exact ⟨y, z, w, rfl, n _ _ Hk1 H21 p (((A1.set r2).set r3).set r4) (T1.lose fun a h => own_set (own_set (own_set h)))⟩
theorem w_drop (h : wE K te ρ fun _ ρ1 => E.nx ρ1) : wS K (tDrop te) ρ E := fun σ Hk H2 F A n r b k => h σ Hk H2 A _ fun y d ρ1 Hk1 H21 p A1 T1 r1 => n ρ1 σ Hk1 H21 p A1 T1
/-- a for: Pv by the turn and the slots -/
def ForD (K : PySem.W.Frag) (g : TG) (t : TS) (E : De) (ds : List D) (ρ1 : Env) : Prop := ∃ (js : List Nat) (Pv : Nat → Env → Prop), Pv 0 ρ1 ∧
  (∀ i d ρ2, ds[i]? = some d → Pv i ρ2 → wG K js g d ρ2 fun ρ3 => wS K t ρ3 ⟨Pv (i + 1), E.rt, E.nx, Pv (i + 1)⟩) ∧ ∀ ρ2, Pv ds.length ρ2 → E.nx ρ2
theorem w_for {wi : TI} {g : TG} (h : wI K wi ρ (ForD K g t E)) : wS K (tFor wi g t) ρ E := fun σ Hk H2 F A n r b k =>
  h σ Hk H2 A _ fun J ds ρ1 Hk1 H21 ⟨js, Pv, h0, hs, hd⟩ A1 T1 G => by
    refine ⟨fun i m σ' H' => m = ds.length - i ∧ i ≤ ds.length ∧ ∃ ρ2 Hk2, Pv i ρ2 ∧ At K ρ2 σ' Hk2 H' ∧ Tr (Own ρ1 σ) Hk1 H21 (Own ρ2 σ') Hk2 H', ⟨ds.length, by simp, Nat.zero_le _, ρ1, Hk1, h0, A1, .refl⟩, ?_⟩
    rintro i m σ' H' ⟨rfl, hi, ρ2, Hk2, hp, A2, T2⟩
    by_cases hlt : i < ds.length
    · refine .inr ⟨G.go i H' hlt (T2.ex.trans A2.sub), fun σ' H' => i + 1 ≤ ds.length ∧ ∃ ρ2 Hk2, Pv (i + 1) ρ2 ∧ At K ρ2 σ' Hk2 H' ∧ Tr (Own ρ1 σ) Hk1 H21 (Own ρ2 σ') Hk2 H', fun σ'' H'' z => ⟨ds.length - (i + 1), by omega, rfl, z⟩, fun x H'' hy => ?_⟩
      obtain ⟨Hk3, s1, s2, k1, n1, rx⟩ := G.yld i H' x H'' Hk2 _ (List.getElem?_eq_getElem hlt) T2.ex A2.sub hy
      have A3 : At K ρ2 σ' Hk3 H'' := A2.grow s1 s2 k1 n1
      have T3 : Tr (Own ρ2 σ') Hk2 H' (Own ρ2 σ') Hk3 H'' := ⟨s1, fun a o h _ => k1 a o h, fun a h => (n1 a h).imp id .inl, fun a h => .inl h⟩
      refine hs i _ ρ2 (List.getElem?_eq_getElem hlt) hp σ' Hk3 H'' x A3 rx _ fun ρ3 σ3 Hk4 H4 h4 A4 T4 _ => ?_
      have TT := (T2.trans T3).trans T4
      exact wS.use (F := { F with nx := _, ct := _, bk := F.nx }) h4 A4 TT (fun ρ5 σ5 Hk5 H5 p A5 T5 => ⟨hlt, ρ5, Hk5, p, A5, T5⟩) (fun y d ρ5 σ5 Hk5 H5 p A5 T5 r5 => r y d ρ5 σ5 Hk5 H5 p A5 (T1.trans T5) r5)
        (fun ρ5 σ5 Hk5 H5 p A5 T5 => n ρ5 σ5 Hk5 H5 p A5 (T1.trans T5)) (fun ρ5 σ5 Hk5 H5 p A5 T5 => ⟨hlt, ρ5, Hk5, p, A5, T5⟩)
    · have e : i = ds.length := by omega
      subst e
      exact .inl ⟨G.stop H' (T2.ex.trans A2.sub), n ρ2 σ' Hk2 H' (hd ρ2 hp) A2 (T1.trans T2)⟩
/-- a while: M by a measure and the slots -/
theorem w_while (M : Nat → Env → Prop) (m0 : Nat) (h0 : M m0 ρ) (hs : ∀ m ρ1, M m ρ1 → wT K c ρ1 fun b ρ2 => if b = true then wS K t ρ2 ⟨fun ρ3 => ∃ m', m' < m ∧ M m' ρ3, E.rt, E.nx, fun ρ3 => ∃ m', m' < m ∧ M m' ρ3⟩ else E.nx ρ2) :
    wS K (tWhile c t) ρ E := fun σ Hk H2 F A n r b k => by
  refine ⟨fun m σ' H' => ∃ ρ1 Hk1, M m ρ1 ∧ At K ρ1 σ' Hk1 H' ∧ Tr (Own ρ σ) Hk H2 (Own ρ1 σ') Hk1 H', ⟨m0, ρ, Hk, h0, A, .refl⟩, ?_⟩
  rintro m σ' H' ⟨ρ1, Hk1, hm, A1, T1⟩
  refine hs m ρ1 hm σ' Hk1 H' A1 _ fun x ρ2 Hk2 H22 p A2 T2 => ?_
  cases x with
  | true =>
    exact ⟨fun σ'' H'' => ∃ m', m' < m ∧ ∃ ρ1 Hk1, M m' ρ1 ∧ At K ρ1 σ'' Hk1 H'' ∧ Tr (Own ρ σ) Hk H2 (Own ρ1 σ'') Hk1 H'', fun σ'' H'' z => z,
      wS.use (F := { F with nx := _, ct := _, bk := F.nx }) (show wS K t ρ2 _ from p) A2 (T1.trans T2) (fun ρ5 σ5 Hk5 H5 ⟨m', l, z⟩ A5 T5 => ⟨m', l, ρ5, Hk5, z, A5, T5⟩) r n (fun ρ5 σ5 Hk5 H5 ⟨m', l, z⟩ A5 T5 => ⟨m', l, ρ5, Hk5, z, A5, T5⟩)⟩
  | false => exact n ρ2 σ' Hk2 H22 p A2 (T1.trans T2)
/-! ### own lists -/
theorem At.setOwn {σ : L2.St} {Hk H2 : Hp} (A : At K ρ σ Hk H2) {i : Nat} {ds : List D} {p : Addr} {xs : List V} (hp : H2 p = none) (r : RpL K Hk ds xs) : At K (ρ.set i (.own ds)) (σ.set i (some (.ref p))) Hk (upd H2 p (.lst xs)) := by
  have A1 := A.hid (.lst xs) hp
  have hk := A.free hp
  have no : ∀ (j : Nat) es, ρ[j]? = some (.own es) → σ[j]? ≠ some (some (.ref p)) := fun j es h1 h2 => A.notOwn hp ⟨j, es, h1, h2⟩
  refine ⟨A1.sub, by rw [List.length_set, List.length_set, A.len], fun j s o h1 h2 => ?_, fun j l q fs es h1 h2 h3 h4 => ?_⟩
  · by_cases q : i = j
    · subst q
      have hi : i < ρ.length := by
        have := (List.getElem?_eq_some_iff.mp h1).1
        rw [List.length_set] at this
        exact this
      rw [List.getElem?_set_self hi] at h1
      rw [List.getElem?_set_self (by rw [← A.len]; exact hi)] at h2
      obtain rfl := Option.some.inj h1
      obtain rfl := Option.some.inj h2
      exact ⟨p, xs, rfl, hk, upd_same, r⟩
    · rw [List.getElem?_set_ne q] at h1 h2
      exact A1.sl j s o h1 h2
  · by_cases q1 : i = j
    · by_cases q2 : i = l
      · rw [← q1, ← q2]
      · subst q1
        have hi : i < ρ.length := by
          have := (List.getElem?_eq_some_iff.mp h1).1
          rw [List.length_set] at this
          exact this
        rw [List.getElem?_set_self (by rw [← A.len]; exact hi)] at h2
        rw [List.getElem?_set_ne q2] at h3 h4
        have e : p = q := by injection h2 with h2; injection h2 with h2; injection h2
        rw [← e] at h4
        exact absurd h4 (no l es h3)
    · by_cases q2 : i = l
      · subst q2
        have hi : i < ρ.length := by
          have := (List.getElem?_eq_some_iff.mp h3).1
          rw [List.length_set] at this
          exact this
        rw [List.getElem?_set_self (by rw [← A.len]; exact hi)] at h4
        rw [List.getElem?_set_ne q1] at h1 h2
        have e : p = q := by injection h4 with h4; injection h4 with h4; injection h4
        rw [← e] at h2
        exact absurd h2 (no j fs h1)
      · rw [List.getElem?_set_ne q1] at h1 h2
        rw [List.getElem?_set_ne q2] at h3 h4
        exact A.ds j l q fs es h1 h2 h3 h4
theorem tr_setOwn {σ : L2.St} {Hk H2 : Hp} {i : Nat} {ds : List D} {p : Addr} {o : HO} (hp : H2 p = none) : Tr (Own ρ σ) Hk H2 (Own (ρ.set i (.own ds)) (σ.set i (some (.ref p)))) Hk (upd H2 p o) := by
  refine ⟨Same.refl _, fun a u h _ => by rw [upd_ne (ne_of_none h hp)]; exact h, fun a h => .inl h, fun a ⟨j, es, h1, h2⟩ => ?_⟩
  by_cases q : i = j
  · subst q
    have hi : i < σ.length := by
      have := (List.getElem?_eq_some_iff.mp h2).1
      rw [List.length_set] at this
      exact this
    rw [List.getElem?_set_self hi] at h2
    injection h2 with h2; injection h2 with h2; injection h2 with h2
    subst h2
    exact .inr hp
  · rw [List.getElem?_set_ne q] at h1 h2
    exact .inl ⟨j, es, h1, h2⟩
/-- x = [..], a list that will be changed -/
theorem w_setOwn {i : Nat} {ta : TA} (h : wA K ta ρ fun ds ρ1 => ds.length ≤ 100000 ∧ E.nx (ρ1.set i (.own ds))) : wS K (tAsg (tLst ta) (gName i)) ρ E := fun σ Hk H2 F A n r b k =>
  h σ Hk H2 A _ fun ys ds ρ1 Hk1 H21 ⟨hl, p⟩ A1 T1 r1 => ⟨by rw [r1.length]; exact Nat.le_trans hl (by decide), fun a ha => n _ _ Hk1 _ p (A1.setOwn ha r1) (T1.trans (tr_setOwn ha))⟩
/-- x, y = e, [] -/
theorem w_parOwn {i j : Nat} (h : wE K ta ρ fun d ρ1 => E.nx ((ρ1.set i (.dat d)).set j (.own []))) : wS K (tPar i j (tCons ta (tCons (tLst tNil) tNil))) ρ E := fun σ Hk H2 F A n r b k =>
  h σ Hk H2 A _ fun y d ρ1 Hk1 H21 p A1 T1 r1 => ⟨Nat.zero_le _, fun a ha => ⟨y, .ref a, rfl, n _ _ Hk1 _ p ((A1.set r1).setOwn ha rfl) ((T1.lose fun a h => own_set h).trans (tr_setOwn ha))⟩⟩
/-- x, y, z = e, f, [] -/
theorem w_par3Own {i j l : Nat} {tb : TE} (h : wE K ta ρ fun d ρ1 => wE K tb ρ1 fun e ρ2 => E.nx (((ρ2.set i (.dat d)).set j (.dat e)).set l (.own []))) : wS K (tPar3 i j l (tCons ta (tCons tb (tCons (tLst tNil) tNil)))) ρ E := fun σ Hk H2 F A n r b k =>
  h σ Hk H2 A _ fun y d ρ1 Hk1 H21 p A1 T1 r1 => p σ Hk1 H21 A1 _ fun z e ρ2 Hk2 H22 p2 A2 T2 r2 => ⟨Nat.zero_le _, fun a ha => ⟨y, z, .ref a, rfl, n _ _ Hk2 _ p2 (((A2.set (r1.mono T2.ex)).set r2).setOwn ha rfl) (((T1.trans T2).lose fun a h => own_set (own_set h)).trans (tr_setOwn ha))⟩⟩
/-- an own list is written -/
theorem At.write {σ : L2.St} {Hk H2 : Hp} (A : At K ρ σ Hk H2) {i : Nat} {ds es : List D} {p : Addr} {ys : List V} (h : ρ[i]? = some (.own ds)) (hσ : σ[i]? = some (some (.ref p))) (r : RpL K Hk es ys) :
    At K (ρ.set i (.own es)) σ Hk (upd H2 p (.lst ys)) ∧ Tr (Own ρ σ) Hk H2 (Own (ρ.set i (.own es)) σ) Hk (upd H2 p (.lst ys)) := by
  have hi : i < ρ.length := (List.getElem?_eq_some_iff.mp h).1
  obtain ⟨p', xs, e1, hk, hp, _⟩ := A.getOwn h
  obtain rfl : p' = p := by rw [hσ] at e1; injection e1 with e1; injection e1 with e1; injection e1 with e1; exact e1.symm
  have sub' : Same Hk (upd H2 p' (.lst ys)) := fun a o ha => by
    rw [upd_ne (fun z => by rw [z, hk] at ha; exact nomatch ha)]
    exact A.sub a o ha
  have same : ∀ (j : Nat) fs, (ρ.set i (.own es))[j]? = some (.own fs) → ∃ gs, ρ[j]? = some (.own gs) := fun j fs hj => by
    by_cases q : i = j
    · subst q; exact ⟨ds, h⟩
    · rw [List.getElem?_set_ne q] at hj; exact ⟨fs, hj⟩
  refine ⟨⟨sub', by rw [List.length_set, A.len], fun j s o h1 h2 => ?_, fun j l q fs gs h1 h2 h3 h4 => ?_⟩, ⟨Same.refl _, fun a o ha hn => ?_, fun a z => .inl z, fun a ⟨j, fs, h1, h2⟩ => ?_⟩⟩
  · by_cases q : i = j
    · subst q
      rw [List.getElem?_set_self hi] at h1
      obtain rfl := Option.some.inj h1
      rw [hσ] at h2
      obtain rfl := Option.some.inj h2
      exact ⟨p', ys, rfl, hk, upd_same, r⟩
    · rw [List.getElem?_set_ne q] at h1
      have z := A.sl j s o h1 h2
      cases s with
      | any => trivial
      | dat d => exact z
      | own fs =>
        obtain ⟨q', zs, z1, z2, z3, z4⟩ := z
        refine ⟨q', zs, z1, z2, ?_, z4⟩
        rw [upd_ne (fun y => q (A.ds i j p' ds fs h hσ h1 (by rw [h2, z1, y])))]
        exact z3
  · obtain ⟨f2, g1⟩ := same j fs h1
    obtain ⟨f3, g2⟩ := same l gs h3
    exact A.ds j l q f2 f3 g1 h2 g2 h4
  · rw [upd_ne (fun z => hn ⟨i, ds, h, by rw [z]; exact hσ⟩)]
    exact ha
  · obtain ⟨gs, g⟩ := same j fs h1
    exact .inl ⟨j, gs, g, h2⟩
/-- x.append(e), x an own list -/
theorem w_append {i : Nat} {ds0 : List D} (h0 : ρ[i]? = some (.own ds0)) (h : wE K te ρ fun d ρ1 => ∃ ds, ρ1[i]? = some (.own ds) ∧ ds.length < 100000 ∧ E.nx (ρ1.set i (.own (ds ++ [d])))) :
    wS K (tDrop (tBM K "list" rAppend (tVar i) (tCons te tNil))) ρ E := fun σ Hk H2 F A n r b k => by
  obtain ⟨p, xs, e1, hk, hp, hr⟩ := A.getOwn h0
  refine ⟨.ref p, e1, .inl ⟨rfl, xs, .inl (.inl hp)⟩, h σ Hk H2 A _ fun y d ρ1 Hk1 H21 ⟨ds, h1, hl, p1⟩ A1 T1 r1 => ?_⟩
  obtain ⟨p', ys, e2, hk1, hp1, hr1⟩ := A1.getOwn h1
  obtain rfl : p' = p := by rw [e1] at e2; injection e2 with e2; injection e2 with e2; injection e2 with e2; exact e2.symm
  obtain ⟨A2, T2⟩ := A1.write h1 e1 (hr1.app (RpL.one r1))
  exact ⟨p', ys, y, rfl, rfl, hp1, by rw [hr1.length]; exact Nat.lt_of_lt_of_le hl (by decide), n _ σ Hk1 _ p1 A2 (T1.trans T2)⟩
/-- x[e] of an own list -/
theorem w_ixOwn {i : Nat} {ds0 : List D} (h0 : ρ[i]? = some (.own ds0)) (h : wE K te ρ fun db ρ1 => ∃ ds k d, ρ1[i]? = some (.own ds) ∧ db = .int k ∧ atI ds k = some d ∧ P d ρ1) : wE K (tOp (rIxL K) (tVar i) te) ρ P := fun σ Hk H2 A Q q => by
  obtain ⟨p, xs, e1, hk, hp, hr⟩ := A.getOwn h0
  refine ⟨.ref p, e1, h σ Hk H2 A _ fun y db ρ1 Hk1 H21 ⟨ds, k, d, h1, e, ha, p1⟩ A1 T1 r1 => ?_⟩
  subst e
  obtain ⟨p', ys, e2, hk1, hp1, hr1⟩ := A1.getOwn h1
  obtain rfl : p' = p := by rw [e1] at e2; injection e2 with e2; injection e2 with e2; injection e2 with e2; exact e2.symm
  obtain ⟨z, hz, rz⟩ := atI_get hr1 ha
  exact ⟨p', ys, k, z, rfl, r1, .inl (.inl hp1), hz, q z d ρ1 Hk1 H21 p1 A1 T1 rz⟩
/-- x[k] = e, x an own list (a target) -/
theorem g_subOwn {js : List Nat} {i : Nat} {d : D} {N : Env → Prop} {ti : TE} (h : wE K ti ρ fun dk ρ1 => ∃ ds k j, ρ1[i]? = some (.own ds) ∧ dk = .int k ∧ ixN ds.length k = some j ∧ N (ρ1.set i (.own (ds.set j d)))) {ds0 : List D} (h0 : ρ[i]? = some (.own ds0)) :
    wG K js (gSub (tVar i) ti rSetL) d ρ N := fun σ Hk H2 y A r Q q => by
  obtain ⟨p, xs, e1, hk, hp, hr⟩ := A.getOwn h0
  refine ⟨.ref p, e1, h σ Hk H2 A _ fun z dk ρ1 Hk1 H21 ⟨ds, k, j, h1, e, hj, p1⟩ A1 T1 r1 => ?_⟩
  subst e
  obtain ⟨p', ys, e2, hk1, hp1, hr1⟩ := A1.getOwn h1
  obtain rfl : p' = p := by rw [e1] at e2; injection e2 with e2; injection e2 with e2; injection e2 with e2; exact e2.symm
  obtain ⟨A2, T2⟩ := A1.write h1 e1 (hr1.set (r.mono T1.ex) j)
  exact ⟨p', ys, k, j, rfl, r1, hp1, by rw [hr1.length]; exact hj, q _ σ Hk1 _ p1 A2 (T1.trans T2) rfl⟩
/-- x.pop(e) of an own list -/
theorem w_popOwn {i : Nat} {ds0 : List D} (h0 : ρ[i]? = some (.own ds0)) (h : wE K te ρ fun db ρ1 => ∃ (ds : List D) (k : Int) (j : Nat) (d : D), ρ1[i]? = some (.own ds) ∧ db = .int k ∧ (-(2 ^ 63) ≤ k ∧ k < 2 ^ 63) ∧ seqIndex? k ds.length = some j ∧ ds[j]? = some d ∧ P d (ρ1.set i (.own (ds.eraseIdx j)))) :
    wE K (tBM K "list" rPopAt (tVar i) (tCons te tNil)) ρ P := fun σ Hk H2 A Q q => by
  obtain ⟨p, xs, e1, hk, hp, hr⟩ := A.getOwn h0
  refine ⟨.ref p, e1, .inl ⟨rfl, xs, .inl (.inl hp)⟩, h σ Hk H2 A _ fun y db ρ1 Hk1 H21 ⟨ds, k, j, d, h1, e, hb, hj, hd, p1⟩ A1 T1 r1 => ?_⟩
  subst e
  obtain ⟨p', ys, e2, hk1, hp1, hr1⟩ := A1.getOwn h1
  obtain rfl : p' = p := by rw [e1] at e2; injection e2 with e2; injection e2 with e2; injection e2 with e2; exact e2.symm
  obtain ⟨z, hz, rz⟩ := hr1.get hd
  obtain ⟨A2, T2⟩ := A1.write h1 e1 (hr1.eraseIdx j)
  exact ⟨p', ys, k, j, z, rfl, by rw [show y = V.int k from r1], hp1, hb.1, hb.2, by rw [hr1.length]; exact hj, hz, q z d _ Hk1 _ p1 A2 (T1.trans T2) rz⟩
/-- len(x) of an own list -/
theorem w_lenOwn {i : Nat} {ds : List D} (h0 : ρ[i]? = some (.own ds)) (p : P (.int (ds.length : Int)) ρ) : wE K (tCB (fun xs H Q => ∃ p ys, xs = [.ref p] ∧ (SqL K H p ys ∨ SqT K H p ys) ∧ Q (.int ys.length) H) (tCons (tVar i) tNil)) ρ P := fun σ Hk H2 A Q q => by
  obtain ⟨a, xs, e1, hk, hp, hr⟩ := A.getOwn h0
  exact ⟨.ref a, e1, a, xs, rfl, .inl (.inl (.inl hp)), q _ _ ρ Hk H2 p A .refl (by rw [hr.length]; rfl)⟩
/-- an own list becomes known -/
theorem At.pub {σ : L2.St} {Hk H2 : Hp} (A : At K ρ σ Hk H2) {i : Nat} {ds : List D} (h : ρ[i]? = some (.own ds)) : ∃ Hk', At K (ρ.set i (.dat (.lst ds))) σ Hk' H2 ∧ Tr (Own ρ σ) Hk H2 (Own (ρ.set i (.dat (.lst ds))) σ) Hk' H2 := by
  have hi : i < ρ.length := (List.getElem?_eq_some_iff.mp h).1
  obtain ⟨p, xs, e1, hk, hp, hr⟩ := A.getOwn h
  have s1 : Same Hk (upd Hk p (.lst xs)) := fun a u z => by rw [upd_ne (ne_of_none z hk)]; exact z
  have low : ∀ a, Own (ρ.set i (.dat (.lst ds))) σ a → Own ρ σ a ∧ a ≠ p := fun a ⟨j, es, h1, h2⟩ => by
    by_cases q : i = j
    · subst q
      rw [List.getElem?_set_self hi] at h1
      exact nomatch h1
    · rw [List.getElem?_set_ne q] at h1
      exact ⟨⟨j, es, h1, h2⟩, fun z => q (A.ds i j p ds es h e1 h1 (by rw [← z]; exact h2))⟩
  refine ⟨upd Hk p (.lst xs), ⟨fun a u z => ?_, by rw [List.length_set, A.len], fun j s o h1 h2 => ?_, fun j l q fs gs h1 h2 h3 h4 => ?_⟩, ⟨s1, fun a o z _ => z, fun a z => ?_, fun a z => .inl (low a z).1⟩⟩
  · by_cases q : a = p
    · subst q; rw [upd_same] at z; rw [hp]; exact z
    · rw [upd_ne q] at z; exact A.sub a u z
  · by_cases q : i = j
    · subst q
      rw [List.getElem?_set_self hi] at h1
      obtain rfl := Option.some.inj h1
      rw [e1] at h2
      obtain rfl := Option.some.inj h2
      exact ⟨.ref p, rfl, p, xs, rfl, upd_same, hr.mono s1⟩
    · rw [List.getElem?_set_ne q] at h1
      have z := A.sl j s o h1 h2
      cases s with
      | any => trivial
      | dat d =>
        obtain ⟨y, z1, z2⟩ := z
        exact ⟨y, z1, z2.mono s1⟩
      | own fs =>
        obtain ⟨q', zs, z1, z2, z3, z4⟩ := z
        refine ⟨q', zs, z1, ?_, z3, z4.mono s1⟩
        rw [upd_ne (fun y => q (A.ds i j p ds fs h e1 h1 (by rw [h2, z1, y])))]
        exact z2
  · have g : ∀ (j : Nat) fs, (ρ.set i (.dat (.lst ds)))[j]? = some (.own fs) → ρ[j]? = some (.own fs) := fun j fs z => by
      by_cases q : i = j
      · subst q
        rw [List.getElem?_set_self hi] at z
        exact nomatch z
      · rw [List.getElem?_set_ne q] at z; exact z
    exact A.ds j l q fs gs (g j fs h1) h2 (g l gs h3) h4
  · by_cases q : a = p
    · exact .inr (.inr ⟨i, ds, h, by rw [q]; exact e1⟩)
    · rw [upd_ne q] at z; exact .inl z
theorem w_pub {i : Nat} {ds : List D} (h0 : ρ[i]? = some (.own ds)) (h : wS K t (ρ.set i (.dat (.lst ds))) E) : wS K t ρ E := fun σ Hk H2 F A n r b k => by
  obtain ⟨Hk', A', T'⟩ := A.pub h0
  exact wS.use h A' T' n r b k
theorem w_pubE {i : Nat} {ds : List D} (h0 : ρ[i]? = some (.own ds)) (h : wE K te (ρ.set i (.dat (.lst ds))) P) : wE K te ρ P := fun σ Hk H2 A Q q => by
  obtain ⟨Hk', A', T'⟩ := A.pub h0
  exact h σ Hk' H2 A' Q fun y d ρ1 Hk1 H21 p A1 T1 r1 => q y d ρ1 Hk1 H21 p A1 (T'.trans T1) r1
end
end Dl
set_option Elab.async false
set_option linter.all false
set_option maxRecDepth 100000
set_option maxHeartbeats 1200000
/-! Rules for readings over data: defs, calls of them, comprehensions by what they make. -/
namespace Dl
open PySem PySem.Spec PyProof.Rows L2 StX
/-! ### comprehensions, told by what is made -/
section
variable {K : PySem.W.Frag} {P : PD} {ρ1 : Env}
theorem wipeS_len : ∀ (ρ : Env) (vs : List Nat), (wipeS ρ vs).length = ρ.length
  | _, [] => rfl
  | ρ, v :: vs => by show ((wipeS ρ vs).set v .any).length = _; rw [List.length_set, wipeS_len ρ vs]
theorem wipeS_in : ∀ {ρ : Env} {vs : List Nat} {i : Nat}, i ∈ vs → (wipeS ρ vs)[i]? = if i < ρ.length then some .any else none
  | _, [], _, h => nomatch h
  | ρ, v :: vs, i, h => by
    show ((wipeS ρ vs).set v .any)[i]? = _
    by_cases q : v = i
    · subst q
      by_cases hv : v < ρ.length
      · rw [List.getElem?_set_self (by rw [wipeS_len]; exact hv), if_pos hv]
      · rw [if_neg hv]
        exact List.getElem?_eq_none (by rw [List.length_set, wipeS_len]; omega)
    · rw [List.getElem?_set_ne q]
      exact wipeS_in ((List.mem_cons.mp h).elim (fun e => absurd e.symm q) id)
theorem wipeS_out : ∀ {ρ : Env} {vs : List Nat} {i : Nat}, i ∉ vs → (wipeS ρ vs)[i]? = ρ[i]?
  | _, [], _, _ => rfl
  | ρ, v :: vs, i, h => by
    show ((wipeS ρ vs).set v .any)[i]? = _
    rw [List.getElem?_set_ne (fun e => h (by rw [e]; exact List.mem_cons_self)), wipeS_out fun z => h (List.mem_cons_of_mem _ z)]
theorem wipeS_wipeS (ρ : Env) (vs : List Nat) : wipeS (wipeS ρ vs) vs = wipeS ρ vs := by
  refine List.ext_getElem? fun j =>
      ?_
  by_cases q : j ∈ vs
  · rw [wipeS_in q, wipeS_in q, wipeS_len]
  · rw [wipeS_out q]
/-- each item makes the item of es at its place -/
theorem lcd_to {g : TG} {tt : TT} {te : TE} {vs : List Nat} {ds : List D} (es : List D) (hl : es.length = ds.length) (hn : ds.length ≤ 100000) (hw : wipeS ρ1 vs = ρ1)
    (h : ∀ (i : Nat) d e, ds[i]? = some d → es[i]? = some e → wG K vs g d ρ1 fun ρ3 => wT K tt ρ3 fun b ρ4 => b = true ∧ wE K te ρ4 fun e' ρ5 => e' = e ∧ wipeS ρ5 vs = ρ1) (p : P (.lst es) ρ1) : LcD K g tt te vs P ds ρ1 := by
  refine ⟨fun i acc ρ => i ≤ ds.length ∧ acc = es.take i ∧ ρ = ρ1, hn, ⟨Nat.zero_le _, rfl, rfl⟩, hw, fun i d acc ρ2 hd ⟨hi, ha, e⟩ _ => ?_, fun acc ρ2 ⟨hi, ha, e⟩ => ?_⟩
  · subst e ha
    have hi' : i < ds.length := (List.getElem?_eq_some_iff.mp hd).1
    have he : es[i]? = some es[i] := List.getElem?_eq_getElem (by omega)
    intro σ Hk H2 y A r Q q
    refine h i d _ hd he σ Hk H2 y A r Q fun ρ3 σ3 Hk3 H3 h3 => q ρ3 σ3 Hk3 H3 (h3.mono fun b ρ4 ⟨e1, h4⟩ => ?_)
    subst e1
    exact h4.mono fun e' ρ5 ⟨e2, e3⟩ => ⟨wipeS_wipeS _ _, hi', by rw [e2, List.take_add_one, he]; rfl, e3⟩
  · subst e ha
    rw [← hl, List.take_length]
    exact p
/-- those that are kept -/
theorem lcd_filter {g : TG} {tt : TT} {te : TE} {vs : List Nat} {ds : List D} (keep : D → Bool) (hn : ds.length ≤ 100000) (hw : wipeS ρ1 vs = ρ1)
    (h : ∀ (i : Nat) d, ds[i]? = some d → wG K vs g d ρ1 fun ρ3 => wT K tt ρ3 fun b ρ4 => b = keep d ∧ if b = true then wE K te ρ4 (fun e' ρ5 => e' = d ∧ wipeS ρ5 vs = ρ1) else wipeS ρ4 vs = ρ1) (p : P (.lst (ds.filter keep)) ρ1) : LcD K g tt te vs P ds ρ1 := by
  refine ⟨fun i acc ρ => i ≤ ds.length ∧ acc = (ds.take i).filter keep ∧ ρ = ρ1, hn, ⟨Nat.zero_le _, rfl, rfl⟩, hw, fun i d acc ρ2 hd ⟨hi, ha, e⟩ _ => ?_, fun acc ρ2 ⟨hi, ha, e⟩ => ?_⟩
  · subst e ha
    have hi' : i < ds.length := (List.getElem?_eq_some_iff.mp hd).1
    intro σ Hk H2 y A r Q q
    refine h i d hd σ Hk H2 y A r Q fun ρ3 σ3 Hk3 H3 h3 => q ρ3 σ3 Hk3 H3 (h3.mono fun b ρ4 ⟨e1, h4⟩ => ?_)
    cases b with
    | true =>
      exact (show wE K te ρ4 _ from h4).mono fun e' ρ5 ⟨e2, e3⟩ => ⟨wipeS_wipeS _ _, hi', by
        rw [e2, List.take_add_one, hd, List.filter_append]
        show _ ++ [d] = _ ++ List.filter keep [d]
        rw [List.filter_cons, if_pos e1.symm]
        rfl, e3⟩
    | false =>
      refine ⟨wipeS_wipeS _ _, hi', ?_, h4⟩
      rw [List.take_add_one, hd, List.filter_append]
      show _ = _ ++ List.filter keep [d]
      rw [List.filter_cons, if_neg (by rw [← e1]; exact Bool.false_ne_true)]
      exact (List.append_nil _).symm
  · subst e ha
    rw [List.take_length]
    exact p
end
/-! ### defs -/
def envOf (N : List Str) (ds : List D) : Env := ds.map Sl.dat ++ List.replicate (N.length - ds.length) .any
theorem at_start {K : PySem.W.Frag} {N : List Str} {Hk H1 : Hp} {ds : List D} {vs : List V} (s : Same Hk H1) (r : RpL K Hk ds vs) : At K (envOf N ds) (L2.start N vs) Hk H1 := by
  have hl := r.length
  have nown : ∀ (i : Nat) es, (envOf N ds)[i]? ≠ some (.own es) := fun i es h => by
    unfold envOf at h
    by_cases q : i < ds.length
    · rw [List.getElem?_append_left (by rw [List.length_map]; exact q), List.getElem?_map, List.getElem?_eq_getElem q] at h
      exact nomatch h
    · rw [List.getElem?_append_right (by rw [List.length_map]; omega)] at h
      have h2 := List.mem_of_getElem? h
      have h3 := List.eq_of_mem_replicate h2
      exact nomatch h3
  refine ⟨s, ?_, fun i t o h1 h2 => ?_, fun i j p es fs h1 => absurd h1 (nown i es)⟩
  · unfold envOf L2.start
    rw [List.length_append, List.length_append, List.length_map, List.length_map, List.length_replicate, List.length_replicate, hl]
  · unfold envOf at h1
    unfold L2.start at h2
    by_cases q : i < ds.length
    · rw [List.getElem?_append_left (by rw [List.length_map]; exact q), List.getElem?_map, List.getElem?_eq_getElem q] at h1
      obtain rfl := Option.some.inj h1
      obtain ⟨y, h3, h4⟩ := r.get (List.getElem?_eq_getElem q)
      rw [List.getElem?_append_left (by rw [List.length_map]; omega), List.getElem?_map, h3] at h2
      obtain rfl := Option.some.inj h2
      exact ⟨y, rfl, h4⟩
    · rw [List.getElem?_append_right (by rw [List.length_map]; omega)] at h1
      have h3 := List.eq_of_mem_replicate (List.mem_of_getElem? h1)
      subst h3
      trivial
theorem noOwn {N : List Str} {ds : List D} {σ : L2.St} {a : Addr} : ¬ Own (envOf N ds) σ a := fun ⟨i, es, h, _⟩ => by
  unfold envOf at h
  by_cases q : i < ds.length
  · rw [List.getElem?_append_left (by rw [List.length_map]; exact q), List.getElem?_map, List.getElem?_eq_getElem q] at h
    exact nomatch h
  · rw [List.getElem?_append_right (by rw [List.length_map]; omega)] at h
    exact nomatch (List.eq_of_mem_replicate (List.mem_of_getElem? h))
section
variable {Pr : Program} {w : World} {K : PySem.W.Frag} {mg : Str → Option Value} {base : Heap}
abbrev PS1 := List D → (D → Prop) → Prop
/-- THE RULE for a def over data -/
theorem okD {x qual : Str} {st : Stmt} {f : Addr} {fd : FuncData} {N ps : List Str} {k : Nat} {S : PS1} (F : Fun K x qual st f fd) (sc : FnScope N ps (defScope st)) (hlen : ∀ ds P, S ds P → ds.length = ps.length)
    (body : ∀ (cdv : Value) (A : Around) (outer : List PySem.Env) (s : Shared) (H : Hp) (E : XK), Room k (A.deeper (envOfC qual (defScope st) s.heap.objs.size f cdv)) →
      ∃ t, PSs (cxOf CX0 Pr w K mg base N qual (defScope st) f cdv A outer s H E).nox (defBody st) t ∧ ∀ ds P, S ds P → wS K t (envOf N ds) ⟨fun _ => P .non, fun d _ => P d, fun _ => False, fun _ => False⟩) :
    FnOk Pr w K mg base CX0 (k + 1) f fd ps (spD K S) := by
  refine F.ok sc (fun vs H Q E h => ?_) (fun cdv A outer s H vs Q E hr h => ?_)
  · obtain ⟨Hk, ds, s, r, P, hS, _⟩ := h
    rw [r.length]
    exact hlen ds P hS
  · obtain ⟨Hk, ds, s1, r, P, hS, q⟩ := h
    obtain ⟨t, h1, h2⟩ := body cdv A outer s H E hr
    refine ⟨t, h1, h2 ds P hS (L2.start N vs) Hk H { nx := fun _ H' => Q .non H', rt := Q } (at_start s1 r) (fun ρ' σ' Hk' H2' p A' T' => ?_) (fun y d ρ' σ' Hk' H2' p A' T' r' => ?_) (fun _ _ _ _ z => z.elim) (fun _ _ _ _ z => z.elim)⟩
    · refine q .non _ Hk' H2' p A'.sub ⟨T'.ex, fun a o z _ => T'.fro a o z noOwn, fun a z => (T'.new a z).imp id fun y => y.imp id fun e => (noOwn e).elim, fun a z => z.elim⟩ rfl
    · exact q y d Hk' H2' p A'.sub ⟨T'.ex, fun a o z _ => T'.fro a o z noOwn, fun a z => (T'.new a z).imp id fun y => y.imp id fun e => (noOwn e).elim, fun a z => z.elim⟩ r'
end
/-- a def that stands under a module's name and keeps its promise -/
structure Ok (Pr : Program) (w : World) (K : PySem.W.Frag) (mg : Str → Option Value) (base : Heap) (k : Nat) (x : Str) (ps : List Str) (sp : Sp) : Prop where
  ex : ∃ f fd, FnOk Pr w K mg base CX0 k f fd ps sp ∧ Binds K fd ps [] ∧ mg x = some (.ref f) ∧ PySem.W.keepIn K (.ref f) = true
section
variable {X : Cx} {k : Nat} {x : Str} {ps : List Str} {sp : Sp} {p pos : Pos} {e : Expr} {es : List Expr} {t : TA}
theorem pe_ok (O : Ok X.prog X.w X.K X.mg X.base k x ps sp) (hr : Room k X.A) (ha : PA X (e :: es) t) (hg : Gl X x := by rfl) (hdb : (x == ("__debug__" : Str)) = false := by decide)
    (he : starEach (e :: es) X.env = (false, eval e X.env) :: starEach es X.env := by rfl) (hpl : (backTo pos (starEach es X.env)).any (·.1) = false := by rfl) : PE X (.Call (.Name x p) (e :: es) [] pos) (tCall sp [] E0 t) := by
  obtain ⟨f, fd, F, b, hm, hk⟩ := O.ex
  exact pe_call F hr hg hm hk b .nil pass0 ha hdb he hpl
theorem pe_globI {i : Int} (h : ∃ t, X.mg x = some (.int i t)) (hg : Gl X x := by rfl) (hd : (x == ("__debug__" : Str)) = false := by decide) : PE X (.Name x pos) (tC (.int i)) := by
  obtain ⟨t, h⟩ := h
  exact pe_glob hg h ⟨t, rfl⟩ hd
theorem pe_globS {z : Str} (h : ∃ t, X.mg x = some (.str z t)) (hg : Gl X x := by rfl) (hd : (x == ("__debug__" : Str)) = false := by decide) : PE X (.Name x pos) (tC (.str z)) := by
  obtain ⟨t, h⟩ := h
  exact pe_glob hg h ⟨t, rfl⟩ hd
theorem pe_globR {a : Addr} (h : X.mg x = some (.ref a)) (hg : Gl X x := by rfl) (hd : (x == ("__debug__" : Str)) = false := by decide) : PE X (.Name x pos) (tC (.ref a)) := pe_glob hg h rfl hd
/-- name = value; a target that is a name -/
theorem ps_setA {i : Nat} {e : Expr} {te : TE} {pos' : Pos} (hN : X.N.Nodup) (he : PE X e te) (hi : X.N[i]? = some x := by rfl) (hx : Loc X.env.scope x := by first | exact Or.inl rfl | exact Or.inr rfl) (hs : swapsWith e (some (.Name x pos')) pos.line X.env = pure false := by rfl)
    (hf : X.fn x = true ∨ X.env.scope.names.lookup x = some .local := by first | exact .inl rfl | exact .inr rfl) : PS X (.Assign [.Name x pos'] e pos) (tAsg te (gName i)) := ps_set hN hi hx he hs hf
theorem pg_nameA {i : Nat} (hN : X.N.Nodup) (hi : X.N[i]? = some x := by rfl) (hx : Loc X.env.scope x := by first | exact Or.inl rfl | exact Or.inr rfl) (hf : X.fn x = true ∨ X.env.scope.names.lookup x = some .local := by first | exact .inl rfl | exact .inr rfl) : PG X (.Name x pos) (gName i) := pg_name hN hi hx hf
end
end Dl
set_option Elab.async false
set_option linter.all false
set_option maxRecDepth 100000
set_option maxHeartbeats 1200000
/-! The text by places; what the top leaves, as the walk asks it. -/
namespace Cs
open PySem L2
def top (i : Nat) : Stmt := PySem.Challenge.pw_cornersure_k29_whole_corner_mixes_and_wh.main.body.getD i (.Pass ⟨0, 0, 0, 0⟩)
abbrev s_is_whole : Stmt := top 21
abbrev s_is_integer : Stmt := top 22
abbrev s_is_name : Stmt := top 23
abbrev s_is_tuple_of : Stmt := top 24
abbrev s_common : Stmt := top 26
abbrev s_lowest : Stmt := top 27
abbrev s_minus : Stmt := top 28
abbrev s_times : Stmt := top 29
abbrev s_is_above : Stmt := top 30
abbrev s_is_stretch : Stmt := top 32
abbrev s_signs_of : Stmt := top 33
abbrev s_are_signs : Stmt := top 34
abbrev s_over : Stmt := top 36
abbrev s_less : Stmt := top 37
abbrev s_settled : Stmt := top 39
abbrev s_begun : Stmt := top 41
abbrev s_solved : Stmt := top 42
abbrev s_without_fills : Stmt := top 43
abbrev s_is_end_stretch : Stmt := top 48
abbrev s_check_columns : Stmt := top 49
abbrev s_is_row : Stmt := top 50
abbrev s_check_rows : Stmt := top 51
abbrev s_check_table : Stmt := top 56
abbrev s_check_signs : Stmt := top 59
abbrev s_end_row : Stmt := top 60
abbrev s_corner_of : Stmt := top 61
abbrev s_corner : Stmt := top 62
abbrev s_check_target : Stmt := top 64
abbrev s_ends_at : Stmt := top 65
abbrev s_most_row : Stmt := top 66
abbrev s_least_row : Stmt := top 67
abbrev s_cheapest_of : Stmt := top 68
abbrev s_corner_rows : Stmt := top 69
abbrev s_no_prices : Stmt := top 70
abbrev s_all_corners : Stmt := top 71
abbrev s_barring_of : Stmt := top 72
abbrev s_mix_in : Stmt := top 73
abbrev s_check_question : Stmt := top 74
abbrev s_corner_mix : Stmt := top 75
abbrev s_is_served : Stmt := top 76
abbrev s_barring : Stmt := top 77
abbrev s_law_mug : Stmt := top 79
abbrev s_law_sip : Stmt := top 80
abbrev s_law_of : Stmt := top 81
abbrev s_law_low : Stmt := top 82
abbrev s_law_plus : Stmt := top 83
abbrev s_law_is_less : Stmt := top 84
abbrev s_law_sum : Stmt := top 85
abbrev s_law_stretch : Stmt := top 86
abbrev s_law_body : Stmt := top 87
abbrev s_law_heads : Stmt := top 88
abbrev s_law_table : Stmt := top 89
abbrev s_law_aim : Stmt := top 90
abbrev s_law_marks : Stmt := top 91
abbrev s_law_ends : Stmt := top 92
abbrev s_law_wants : Stmt := top 93
abbrev s_law_cuts : Stmt := top 94
abbrev s_law_spots : Stmt := top 95
abbrev s_law_keeps : Stmt := top 96
abbrev s_law_is_blend : Stmt := top 97
abbrev s_law_bars : Stmt := top 98
abbrev s_law_case_right : Stmt := top 99
abbrev s_law_right : Stmt := top 100
abbrev s_law : Stmt := top 101
abbrev s_Frame_init : Stmt := inClass (top 38) 0
abbrev s_Frame_turned : Stmt := inClass (top 38) 1
abbrev s_Frame_prices : Stmt := inClass (top 38) 2
abbrev s_Frame_leaving : Stmt := inClass (top 38) 3
abbrev s_Outcome_init : Stmt := inClass (top 40) 0
abbrev s_Table_init : Stmt := inClass (top 54) 0
abbrev s_Table_columns : Stmt := inClass (top 54) 2
abbrev s_Table_rows : Stmt := inClass (top 54) 3
abbrev CFrame : Addr := 369
abbrev COutcome : Addr := 395
abbrev CTable : Addr := 556
structure Tx (K : PySem.W.Frag) (mg : Str → Option Value) : Prop where
  f_is_whole : ∃ f fd, Fun K "is_whole" "is_whole" s_is_whole f fd ∧ mg "is_whole" = some (.ref f)
  f_is_integer : ∃ f fd, Fun K "is_integer" "is_integer" s_is_integer f fd ∧ mg "is_integer" = some (.ref f)
  f_is_name : ∃ f fd, Fun K "is_name" "is_name" s_is_name f fd ∧ mg "is_name" = some (.ref f)
  f_is_tuple_of : ∃ f fd, Fun K "is_tuple_of" "is_tuple_of" s_is_tuple_of f fd ∧ mg "is_tuple_of" = some (.ref f)
  f_common : ∃ f fd, Fun K "common" "common" s_common f fd ∧ mg "common" = some (.ref f)
  f_lowest : ∃ f fd, Fun K "lowest" "lowest" s_lowest f fd ∧ mg "lowest" = some (.ref f)
  f_minus : ∃ f fd, Fun K "minus" "minus" s_minus f fd ∧ mg "minus" = some (.ref f)
  f_times : ∃ f fd, Fun K "times" "times" s_times f fd ∧ mg "times" = some (.ref f)
  f_is_above : ∃ f fd, Fun K "is_above" "is_above" s_is_above f fd ∧ mg "is_above" = some (.ref f)
  f_is_stretch : ∃ f fd, Fun K "is_stretch" "is_stretch" s_is_stretch f fd ∧ mg "is_stretch" = some (.ref f)
  f_signs_of : ∃ f fd, Fun K "signs_of" "signs_of" s_signs_of f fd ∧ mg "signs_of" = some (.ref f)
  f_are_signs : ∃ f fd, Fun K "are_signs" "are_signs" s_are_signs f fd ∧ mg "are_signs" = some (.ref f)
  f_over : ∃ f fd, Fun K "over" "over" s_over f fd ∧ mg "over" = some (.ref f)
  f_less : ∃ f fd, Fun K "less" "less" s_less f fd ∧ mg "less" = some (.ref f)
  f_settled : ∃ f fd, Fun K "settled" "settled" s_settled f fd ∧ mg "settled" = some (.ref f)
  f_begun : ∃ f fd, Fun K "begun" "begun" s_begun f fd ∧ mg "begun" = some (.ref f)
  f_solved : ∃ f fd, Fun K "solved" "solved" s_solved f fd ∧ mg "solved" = some (.ref f)
  f_without_fills : ∃ f fd, Fun K "without_fills" "without_fills" s_without_fills f fd ∧ mg "without_fills" = some (.ref f)
  f_is_end_stretch : ∃ f fd, Fun K "is_end_stretch" "is_end_stretch" s_is_end_stretch f fd ∧ mg "is_end_stretch" = some (.ref f)
  f_check_columns : ∃ f fd, Fun K "check_columns" "check_columns" s_check_columns f fd ∧ mg "check_columns" = some (.ref f)
  f_is_row : ∃ f fd, Fun K "is_row" "is_row" s_is_row f fd ∧ mg "is_row" = some (.ref f)
  f_check_rows : ∃ f fd, Fun K "check_rows" "check_rows" s_check_rows f fd ∧ mg "check_rows" = some (.ref f)
  f_check_table : ∃ f fd, Fun K "check_table" "check_table" s_check_table f fd ∧ mg "check_table" = some (.ref f)
  f_check_signs : ∃ f fd, Fun K "check_signs" "check_signs" s_check_signs f fd ∧ mg "check_signs" = some (.ref f)
  f_end_row : ∃ f fd, Fun K "end_row" "end_row" s_end_row f fd ∧ mg "end_row" = some (.ref f)
  f_corner_of : ∃ f fd, Fun K "corner_of" "corner_of" s_corner_of f fd ∧ mg "corner_of" = some (.ref f)
  f_corner : ∃ f fd, Fun K "corner" "corner" s_corner f fd ∧ mg "corner" = some (.ref f)
  f_check_target : ∃ f fd, Fun K "check_target" "check_target" s_check_target f fd ∧ mg "check_target" = some (.ref f)
  f_ends_at : ∃ f fd, Fun K "ends_at" "ends_at" s_ends_at f fd ∧ mg "ends_at" = some (.ref f)
  f_most_row : ∃ f fd, Fun K "most_row" "most_row" s_most_row f fd ∧ mg "most_row" = some (.ref f)
  f_least_row : ∃ f fd, Fun K "least_row" "least_row" s_least_row f fd ∧ mg "least_row" = some (.ref f)
  f_cheapest_of : ∃ f fd, Fun K "cheapest_of" "cheapest_of" s_cheapest_of f fd ∧ mg "cheapest_of" = some (.ref f)
  f_corner_rows : ∃ f fd, Fun K "corner_rows" "corner_rows" s_corner_rows f fd ∧ mg "corner_rows" = some (.ref f)
  f_no_prices : ∃ f fd, Fun K "no_prices" "no_prices" s_no_prices f fd ∧ mg "no_prices" = some (.ref f)
  f_all_corners : ∃ f fd, Fun K "all_corners" "all_corners" s_all_corners f fd ∧ mg "all_corners" = some (.ref f)
  f_barring_of : ∃ f fd, Fun K "barring_of" "barring_of" s_barring_of f fd ∧ mg "barring_of" = some (.ref f)
  f_mix_in : ∃ f fd, Fun K "mix_in" "mix_in" s_mix_in f fd ∧ mg "mix_in" = some (.ref f)
  f_check_question : ∃ f fd, Fun K "check_question" "check_question" s_check_question f fd ∧ mg "check_question" = some (.ref f)
  f_corner_mix : ∃ f fd, Fun K "corner_mix" "corner_mix" s_corner_mix f fd ∧ mg "corner_mix" = some (.ref f)
  f_is_served : ∃ f fd, Fun K "is_served" "is_served" s_is_served f fd ∧ mg "is_served" = some (.ref f)
  f_barring : ∃ f fd, Fun K "barring" "barring" s_barring f fd ∧ mg "barring" = some (.ref f)
  f_law_mug : ∃ f fd, Fun K "_law_mug" "_law_mug" s_law_mug f fd ∧ mg "_law_mug" = some (.ref f)
  f_law_sip : ∃ f fd, Fun K "_law_sip" "_law_sip" s_law_sip f fd ∧ mg "_law_sip" = some (.ref f)
  f_law_of : ∃ f fd, Fun K "_law_of" "_law_of" s_law_of f fd ∧ mg "_law_of" = some (.ref f)
  f_law_low : ∃ f fd, Fun K "_law_low" "_law_low" s_law_low f fd ∧ mg "_law_low" = some (.ref f)
  f_law_plus : ∃ f fd, Fun K "_law_plus" "_law_plus" s_law_plus f fd ∧ mg "_law_plus" = some (.ref f)
  f_law_is_less : ∃ f fd, Fun K "_law_is_less" "_law_is_less" s_law_is_less f fd ∧ mg "_law_is_less" = some (.ref f)
  f_law_sum : ∃ f fd, Fun K "_law_sum" "_law_sum" s_law_sum f fd ∧ mg "_law_sum" = some (.ref f)
  f_law_stretch : ∃ f fd, Fun K "_law_stretch" "_law_stretch" s_law_stretch f fd ∧ mg "_law_stretch" = some (.ref f)
  f_law_body : ∃ f fd, Fun K "_law_body" "_law_body" s_law_body f fd ∧ mg "_law_body" = some (.ref f)
  f_law_heads : ∃ f fd, Fun K "_law_heads" "_law_heads" s_law_heads f fd ∧ mg "_law_heads" = some (.ref f)
  f_law_table : ∃ f fd, Fun K "_law_table" "_law_table" s_law_table f fd ∧ mg "_law_table" = some (.ref f)
  f_law_aim : ∃ f fd, Fun K "_law_aim" "_law_aim" s_law_aim f fd ∧ mg "_law_aim" = some (.ref f)
  f_law_marks : ∃ f fd, Fun K "_law_marks" "_law_marks" s_law_marks f fd ∧ mg "_law_marks" = some (.ref f)
  f_law_ends : ∃ f fd, Fun K "_law_ends" "_law_ends" s_law_ends f fd ∧ mg "_law_ends" = some (.ref f)
  f_law_wants : ∃ f fd, Fun K "_law_wants" "_law_wants" s_law_wants f fd ∧ mg "_law_wants" = some (.ref f)
  f_law_cuts : ∃ f fd, Fun K "_law_cuts" "_law_cuts" s_law_cuts f fd ∧ mg "_law_cuts" = some (.ref f)
  f_law_spots : ∃ f fd, Fun K "_law_spots" "_law_spots" s_law_spots f fd ∧ mg "_law_spots" = some (.ref f)
  f_law_keeps : ∃ f fd, Fun K "_law_keeps" "_law_keeps" s_law_keeps f fd ∧ mg "_law_keeps" = some (.ref f)
  f_law_is_blend : ∃ f fd, Fun K "_law_is_blend" "_law_is_blend" s_law_is_blend f fd ∧ mg "_law_is_blend" = some (.ref f)
  f_law_bars : ∃ f fd, Fun K "_law_bars" "_law_bars" s_law_bars f fd ∧ mg "_law_bars" = some (.ref f)
  f_law_case_right : ∃ f fd, Fun K "_law_case_right" "_law_case_right" s_law_case_right f fd ∧ mg "_law_case_right" = some (.ref f)
  f_law_right : ∃ f fd, Fun K "_law_right" "_law_right" s_law_right f fd ∧ mg "_law_right" = some (.ref f)
  f_law : ∃ f fd, Fun K "law" "law" s_law f fd ∧ mg "law" = some (.ref f)
  i_Frame : ∃ f fd, Fun K "__init__" "Frame.__init__" s_Frame_init f fd ∧ Mk K CFrame f
  m_Frame_turned : ∃ f fd, Fun K "turned" "Frame.turned" s_Frame_turned f fd ∧ Meth K CFrame "turned" f
  m_Frame_prices : ∃ f fd, Fun K "prices" "Frame.prices" s_Frame_prices f fd ∧ Meth K CFrame "prices" f
  m_Frame_leaving : ∃ f fd, Fun K "leaving" "Frame.leaving" s_Frame_leaving f fd ∧ Meth K CFrame "leaving" f
  i_Outcome : ∃ f fd, Fun K "__init__" "Outcome.__init__" s_Outcome_init f fd ∧ Mk K COutcome f
  i_Table : ∃ f fd, Fun K "__init__" "Table.__init__" s_Table_init f fd ∧ Mk K CTable f
  p_Table_columns : ∃ p f fd, Fun K "columns" "Table.columns" s_Table_columns f fd ∧ PropOf K CTable "columns" p f
  p_Table_rows : ∃ p f fd, Fun K "rows" "Table.rows" s_Table_rows f fd ∧ PropOf K CTable "rows" p f
  g_Frame : mg "Frame" = some (.ref CFrame)
  g_Outcome : mg "Outcome" = some (.ref COutcome)
  g_Table : mg "Table" = some (.ref CTable)
  c_Frame : Cls K CFrame
  c_Outcome : Cls K COutcome
  c_Table : Cls K CTable
  n_Frame_lines : NoAttr K CFrame "lines"
  n_Frame_basis : NoAttr K CFrame "basis"
  n_Outcome_word : NoAttr K COutcome "word"
  n_Outcome_point : NoAttr K COutcome "point"
  n_Outcome_cost : NoAttr K COutcome "cost"
  n_Outcome_weights : NoAttr K COutcome "weights"
  n_Table_heads : NoAttr K CTable "heads"
  n_Table_lines : NoAttr K CTable "lines"
  ins_Table : C8.InsC K CTable
  z_abs : mg "abs" = none
  z_all : mg "all" = none
  z_divmod : mg "divmod" = none
  z_enumerate : mg "enumerate" = none
  z_int : mg "int" = none
  z_isinstance : mg "isinstance" = none
  z_len : mg "len" = none
  z_list : mg "list" = none
  z_range : mg "range" = none
  z_repr : mg "repr" = none
  z_tuple : mg "tuple" = none
  z_zip : mg "zip" = none
  z_bool : mg "bool" = none
  z_str : mg "str" = none
  k_LONGEST_NAME : ∃ t, mg "LONGEST_NAME" = some (.int 8 t)
  k_MOST_END : ∃ t, mg "MOST_END" = some (.int 10000 t)
  k_MOST_COLUMNS : ∃ t, mg "MOST_COLUMNS" = some (.int 4 t)
  k_MOST_ROWS : ∃ t, mg "MOST_ROWS" = some (.int 8 t)
  k_LETTERS : ∃ t, mg "LETTERS" = some (.str "abcdefghijklmnopqrstuvwxyz" t)
  g_ZERO : mg "ZERO" = some (.ref 232)
  g_ONE : mg "ONE" = some (.ref 233)
  t_ZERO : ∀ H : Hp, SqT K H 232 [.int 0, .int 1]
  t_ONE : ∀ H : Hp, SqT K H 233 [.int 1, .int 1]
end Cs
set_option Elab.async false
set_option linter.all false
set_option maxRecDepth 100000
set_option maxHeartbeats 0
/-! The head: what the top leaves, read by a Hook of my own: each def at its place, told by its row; facts as tests. -/
namespace Hd
open PySem PySem.Spec PyProof.Rows L2 Cs
/-! ### a part of the heap -/
theorem frG_has {g : Addr → Option Obj} {a : Addr} {o : Obj} (h : g a = some o) : ∀ as : List Addr, a ∈ as → (He.frG g as).lookup a = some o
  | [], m => nomatch m
  | b :: r, m => by
    by_cases e : a = b
    · subst e
      show (List.filterMap (fun a => (g a).map fun o => (a, o)) (a :: r)).lookup a = some o
      rw [List.filterMap_cons, h]
      show (match a == a with | true => some o | false => _) = some o
      rw [beq_self_eq_true]
    · have m2 : a ∈ r := (List.mem_cons.mp m).elim (fun z => absurd z e) id
      have ih := frG_has h r m2
      show (List.filterMap (fun a => (g a).map fun o => (a, o)) (b :: r)).lookup a = some o
      rw [List.filterMap_cons]
      cases q : g b with
      | none => exact ih
      | some u =>
        show (match a == b with | true => some u | false => (He.frG g r).lookup a) = some o
        rw [beq_false_of_ne e]
        exact ih
/-! ### one def: where it stands, where its code stands, its names, its statement -/
structure DefP where
  a : Addr
  c : Addr
  name : Str
  qual : Str
  st : Stmt
def DefP.val (d : DefP) : He.FnW := some (d.name, d.qual, defArgs d.st, .stmts (defBody d.st), defScope d.st, mainGlobals, [], builtinsNs)
def seenAs (g : Addr → Option Obj) (d : DefP) : He.FnW := match g d.a with
  | some ⟨_, _, .func e, _⟩ => some (e.name, e.qualname, e.params, e.body, e.scope, e.globals, e.closure, e.builtins)
  | _ => none
def isNone : Value → Bool
  | .none => true
  | _ => false
def isRef (a : Addr) : Value → Bool
  | .ref b => decide (b = a)
  | _ => false
def codeB (g : Addr → Option Obj) (c : Addr) (q : Str) : Bool := match g c with
  | some ⟨_, _, .fields vs, _⟩ =>
    (match vs.toList with | _ :: .str n _ :: _ => n == q | _ => false)
  | _ => false
def DefP.ok (g : Addr → Option Obj) (d : DefP) : Bool := match g d.a with
  | some ⟨_, _, .func e, _⟩ => isRef d.c e.code && (isNone e.defaults && codeB g d.c d.qual)
  | _ => false
theorem isNone_ok {v : Value} (h : isNone v = true) : v = .none := by
  cases v <;> first | rfl | exact nomatch h
theorem isRef_ok {a : Addr} {v : Value} (h : isRef a v = true) : v = .ref a := by
  cases v with
  | ref b => exact congrArg Value.ref (of_decide_eq_true h)
  | _ => exact nomatch h
theorem code_ok {g : Addr → Option Obj} {as : List Addr} {c : Addr} {q : Str} (h : codeB g c q = true) (m : c ∈ as) : PySem.W.codeIn (He.frG g as) (.ref c) q = true := by
  unfold codeB at h
  show (match (He.frG g as).lookup c with
    | some ⟨_, _, .fields vs, _⟩ =>
      (match vs.toList with | _ :: .str n _ :: _ => n == q | _ => false)
    | _ => false) = true
  cases e : g c with
  | none => rw [e] at h; exact nomatch h
  | some o => rw [frG_has e as m]; rw [e] at h; exact h
theorem DefP.toFun {g : Addr → Option Obj} {as : List Addr} {d : DefP} (e : seenAs g d = d.val) (h : d.ok g = true) (m1 : d.a ∈ as) (m2 : d.c ∈ as) : ∃ fd, Fun (He.frG g as) d.name d.qual d.st d.a fd := by
  unfold DefP.ok at h
  unfold seenAs at e
  cases q : g d.a with
  | none => rw [q] at h; exact nomatch h
  | some o =>
    have look := frG_has q as m1
    obtain ⟨oc, od, dt, osl⟩ := o
    rw [q] at h e
    cases dt with
    | func x =>
      obtain ⟨g1, g2, g3, g4, g5, g6, g7, g8, g9, g10, g11, g12, g13, g14, g15⟩ := x
      obtain ⟨c3, c4⟩ := He.ba h
      obtain ⟨c5, c6⟩ := He.ba c4
      have z : (some (g1, g2, g3, g4, g5, g6, g7, g15) : He.FnW) = some (d.name, d.qual, defArgs d.st, .stmts (defBody d.st), defScope d.st, mainGlobals, [], builtinsNs) := e
      simp only [Option.some.injEq, Prod.mk.injEq] at z
      obtain ⟨z1, z2, z3, z4, z5, z6, z7, z8⟩ := z
      have z9 : g8 = .none := isNone_ok c5
      have z10 : g13 = .ref d.c := isRef_ok c3
      subst z1 z2 z3 z4 z5 z6 z7 z8 z9 z10
      refine ⟨_, ⟨oc, od, g9, g10, g11, g12, _, g14, osl, rfl, look, code_ok c6 m2⟩, ?_⟩
      show (match (He.frG g as).lookup d.a with
        | some ⟨_, _, .func _, _⟩ =>
            true
        | some ⟨_, _, .cls _, _⟩ => PySem.W.specialIn (He.frG g as) (.ref d.a) "__call__" == some (some (.builtin "type.__call__"))
        | _ => false) = true
      rw [look]
    | _ => exact nomatch h
/-! ### facts, as tests -/
def gloB (K : PySem.W.Frag) (x : Str) (a : Addr) : Bool := He.eqO (PySem.W.nsIn K mainGlobals x) (some (some (.ref a)))
def clsB (K : PySem.W.Frag) (C : Addr) : Bool := PySem.W.plainGet K C Str.empty && (PySem.W.hasDictIn K C && (PySem.W.plainOver K C && He.eqO (PySem.W.findIn K (.ref C) "__setattr__") (some (some (.builtin "object.__setattr__")))))
def mkrB (K : PySem.W.Frag) (C f : Addr) : Bool := PySem.W.makesIn K C && (He.eqO (PySem.W.findIn K (.ref C) "__init__") (some (some (.ref f))) && (PySem.W.isFn K (.ref f) && PySem.W.keepIn K (.ref C)))
def methB (K : PySem.W.Frag) (C : Addr) (m : Str) (f : Addr) : Bool := He.eqO (PySem.W.findIn K (.ref C) m) (some (some (.ref f))) && (PySem.W.isFn K (.ref f) && PySem.W.keepIn K (.ref f))
def noatB (K : PySem.W.Frag) (C : Addr) (f : Str) : Bool := He.eqO (PySem.W.findIn K (.ref C) f) (some none)
def recB (K : PySem.W.Frag) (p g : Addr) : Bool := match PySem.W.recIn K p "property" with
  | some (.ref h :: _) => decide (h = g)
  | _ => false
def propB (K : PySem.W.Frag) (C : Addr) (f : Str) (p g : Addr) : Bool := He.eqO (PySem.W.findIn K (.ref C) f) (some (some (.ref p))) &&
  (He.eqO (PySem.W.specialIn K (.ref p) "__get__") (some (some (.builtin "property.__get__"))) && (decide (PySem.W.takesIn K (.ref p) = some true) && recB K p g))
def insB (K : PySem.W.Frag) (C : Addr) : Bool := He.eqO (PySem.W.findIn K (.ref C) "__class__") (some (some (.builtin "object.__class__"))) &&
  (He.eqO (PySem.W.specialIn K (.builtin "object.__class__") "__get__") (some (some (.builtin "getset_descriptor.__get__"))) &&
  (decide (PySem.W.takesIn K (.builtin "object.__class__") = some true) && (decide (PySem.W.mroIn K C (.type "object") = some true) && decide (PySem.W.kitOne K (.ref C) (.ref C) = some true))))
def tupB (K : PySem.W.Frag) (a : Addr) (vs : List V) : Bool := match K.lookup a with
  | some ⟨.type c, _, .seq its _, _⟩ => decide (c = "tuple") && (decide (its.size ≤ sizeLine) && He.relAll vs its.toList)
  | _ => false
theorem clsB_ok {K : PySem.W.Frag} {C : Addr} (h : clsB K C = true) : Cls K C := by
  obtain ⟨h1, h⟩ := He.ba h
  obtain ⟨h2, h⟩ := He.ba h
  obtain ⟨h3, h4⟩ := He.ba h
  exact ⟨h1, h2, h3, He.eqO_ok h4⟩
theorem mkrB_ok {K : PySem.W.Frag} {C f : Addr} (h : mkrB K C f = true) : Mk K C f := by
  obtain ⟨h1, h⟩ := He.ba h
  obtain ⟨h2, h⟩ := He.ba h
  obtain ⟨h3, h4⟩ := He.ba h
  exact ⟨h1, He.eqO_ok h2, h3, h4⟩
theorem methB_ok {K : PySem.W.Frag} {C f : Addr} {m : Str} (h : methB K C m f = true) : Meth K C m f := by
  obtain ⟨h1, h⟩ := He.ba h
  obtain ⟨h2, h3⟩ := He.ba h
  exact ⟨He.eqO_ok h1, h2, h3⟩
theorem propB_ok {K : PySem.W.Frag} {C p g : Addr} {f : Str} (h : propB K C f p g = true) : PropOf K C f p g := by
  obtain ⟨h1, h⟩ := He.ba h
  obtain ⟨h2, h⟩ := He.ba h
  obtain ⟨h3, h4⟩ := He.ba h
  refine ⟨He.eqO_ok h1, He.eqO_ok h2, of_decide_eq_true h3, ?_⟩
  unfold recB at h4
  split at h4
  · rename_i u r q
    exact ⟨r, by rw [q, of_decide_eq_true h4]⟩
  · exact nomatch h4
theorem insB_ok {K : PySem.W.Frag} {C : Addr} (c : Cls K C) (h : insB K C = true) : C8.InsC K C := by
  obtain ⟨h1, h⟩ := He.ba h
  obtain ⟨h2, h⟩ := He.ba h
  obtain ⟨h3, h⟩ := He.ba h
  obtain ⟨h4, h5⟩ := He.ba h
  exact ⟨c, He.eqO_ok h1, He.eqO_ok h2, of_decide_eq_true h3, of_decide_eq_true h4, of_decide_eq_true h5⟩
theorem tupB_ok {K : PySem.W.Frag} {a : Addr} {vs : List V} (h : tupB K a vs = true) (H : Hp) : SqT K H a vs := by
  unfold tupB at h
  split at h
  · rename_i c od its n sl q
    obtain ⟨h1, h⟩ := He.ba h
    obtain ⟨h2, h3⟩ := He.ba h
    exact .inr ⟨_, its, n, q, congrArg Value.type (of_decide_eq_true h1), rfl, of_decide_eq_true h2, He.relAll_ok h3⟩
  · exact nomatch h
/-! ### the Hook -/
abbrev Fact : Type := PySem.W.Frag → Bool
abbrev AlP : Type := Bool × List He.FnW
def obsP (as : List Addr) (fa : List Fact) (ds : List DefP) (g : Addr → Option Obj) : AlP := ((fa.all fun f => f (He.frG g as)) && ds.all fun d => d.ok g, ds.map fun d => seenAs g d)
def valP (ds : List DefP) : AlP := (true, ds.map DefP.val)
structure SaysP (as : List Addr) (fa : List Fact) (ds : List DefP) (K : PySem.W.Frag) : Prop where
  fact : ∀ f ∈ fa, f K = true
  defs : ∀ d ∈ ds, d.a ∈ as → d.c ∈ as → ∃ fd, Fun K d.name d.qual d.st d.a fd
theorem saysP_of {as : List Addr} {fa : List Fact} {ds : List DefP} {g : Addr → Option Obj} (e : obsP as fa ds g = valP ds) : SaysP as fa ds (He.frG g as) := by
  have e1 : ((fa.all fun f => f (He.frG g as)) && ds.all fun d => d.ok g) = true := congrArg (fun z : AlP => z.1) e
  have e2 : ds.map (fun d => seenAs g d) = ds.map DefP.val := congrArg (fun z : AlP => z.2) e
  obtain ⟨h1, h2⟩ := He.ba e1
  refine ⟨fun f hf => List.all_eq_true.mp h1 f hf, fun d hd m1 m2 => ?_⟩
  obtain ⟨i, hi, q⟩ := List.mem_iff_getElem.mp hd
  have e3 : (ds.map fun d => seenAs g d)[i]? = (ds.map DefP.val)[i]? := by rw [e2]
  rw [List.getElem?_map, List.getElem?_map, List.getElem?_eq_getElem hi, q] at e3
  exact DefP.toFun (Option.some.inj e3) (List.all_eq_true.mp h2 d hd) m1 m2
def hookP (as : List Addr) (fa : List Fact) (ds : List DefP) : PySem.W.Hook where
  α := AlP
  obs := fun s => obsP as fa ds s.heap.get?
  val := fun _ => valP ds
  says := fun _ h => ∃ K : PySem.W.Frag, K.In h ∧ SaysP as fa ds K
  of := fun _ _ e => ⟨_, He.frG_in, saysP_of e⟩
  keeps := fun _ _ _ ⟨K, hK, c⟩ k => ⟨K, PySem.W.Frag.In.keeps hK k,
      c⟩
theorem obsP_eq {as : List Addr} {fa : List Fact} {ds : List DefP} {g : Addr → Option Obj} {s : Shared} (h : ∀ a, g a = s.heap.get? a) : obsP as fa ds g = (hookP as fa ds).obs s := by
  rw [show g = s.heap.get? from funext h]
  rfl
def defs0 : List DefP := [⟨240, 239, "is_whole", "is_whole", s_is_whole⟩,
  ⟨247, 246, "is_integer", "is_integer", s_is_integer⟩,
  ⟨252, 251, "is_name", "is_name", s_is_name⟩,
  ⟨259, 258, "is_tuple_of", "is_tuple_of", s_is_tuple_of⟩,
  ⟨271, 270, "common", "common", s_common⟩,
  ⟨278, 277, "lowest", "lowest", s_lowest⟩,
  ⟨285, 284, "minus", "minus", s_minus⟩,
  ⟨292, 291, "times", "times", s_times⟩,
  ⟨299, 298, "is_above", "is_above", s_is_above⟩,
  ⟨311, 310, "is_stretch", "is_stretch", s_is_stretch⟩,
  ⟨316, 315, "signs_of", "signs_of", s_signs_of⟩,
  ⟨321, 320, "are_signs", "are_signs", s_are_signs⟩,
  ⟨328, 327, "over", "over", s_over⟩,
  ⟨333, 332, "less", "less", s_less⟩,
  ⟨378, 377, "settled", "settled", s_settled⟩,
  ⟨404, 403, "begun", "begun", s_begun⟩,
  ⟨409, 408, "solved", "solved", s_solved⟩,
  ⟨414, 413, "without_fills", "without_fills", s_without_fills⟩,
  ⟨421, 420, "is_end_stretch", "is_end_stretch", s_is_end_stretch⟩,
  ⟨428, 427, "check_columns", "check_columns", s_check_columns⟩,
  ⟨433, 432, "is_row", "is_row", s_is_row⟩,
  ⟨438, 437, "check_rows", "check_rows", s_check_rows⟩,
  ⟨574, 573, "check_table", "check_table", s_check_table⟩,
  ⟨595, 594, "check_signs", "check_signs", s_check_signs⟩,
  ⟨600, 599, "end_row", "end_row", s_end_row⟩]
def defs1 : List DefP := [⟨605, 604, "corner_of", "corner_of", s_corner_of⟩,
  ⟨612, 611, "corner", "corner", s_corner⟩,
  ⟨617, 616, "check_target", "check_target", s_check_target⟩,
  ⟨622, 621, "ends_at", "ends_at", s_ends_at⟩,
  ⟨627, 626, "most_row", "most_row", s_most_row⟩,
  ⟨632, 631, "least_row", "least_row", s_least_row⟩,
  ⟨637, 636, "cheapest_of", "cheapest_of", s_cheapest_of⟩,
  ⟨642, 641, "corner_rows", "corner_rows", s_corner_rows⟩,
  ⟨649, 648, "no_prices", "no_prices", s_no_prices⟩,
  ⟨654, 653, "all_corners", "all_corners", s_all_corners⟩,
  ⟨661, 660, "barring_of", "barring_of", s_barring_of⟩,
  ⟨668, 667, "mix_in", "mix_in", s_mix_in⟩,
  ⟨675, 674, "check_question", "check_question", s_check_question⟩,
  ⟨682, 681, "corner_mix", "corner_mix", s_corner_mix⟩,
  ⟨689, 688, "is_served", "is_served", s_is_served⟩,
  ⟨696, 695, "barring", "barring", s_barring⟩,
  ⟨703, 702, "_law_mug", "_law_mug", s_law_mug⟩,
  ⟨710, 709, "_law_sip", "_law_sip", s_law_sip⟩,
  ⟨717, 716, "_law_of", "_law_of", s_law_of⟩,
  ⟨724, 723, "_law_low", "_law_low", s_law_low⟩,
  ⟨731, 730, "_law_plus", "_law_plus", s_law_plus⟩,
  ⟨738, 737, "_law_is_less", "_law_is_less", s_law_is_less⟩,
  ⟨745, 744, "_law_sum", "_law_sum", s_law_sum⟩,
  ⟨752, 751, "_law_stretch", "_law_stretch", s_law_stretch⟩,
  ⟨757, 756, "_law_body", "_law_body", s_law_body⟩]
def defs2 : List DefP := [⟨762, 761, "_law_heads", "_law_heads", s_law_heads⟩,
  ⟨767, 766, "_law_table", "_law_table", s_law_table⟩,
  ⟨774, 773, "_law_aim", "_law_aim", s_law_aim⟩,
  ⟨781, 780, "_law_marks", "_law_marks", s_law_marks⟩,
  ⟨786, 785, "_law_ends", "_law_ends", s_law_ends⟩,
  ⟨791, 790, "_law_wants", "_law_wants", s_law_wants⟩,
  ⟨798, 797, "_law_cuts", "_law_cuts", s_law_cuts⟩,
  ⟨803, 802, "_law_spots", "_law_spots", s_law_spots⟩,
  ⟨810, 809, "_law_keeps", "_law_keeps", s_law_keeps⟩,
  ⟨815, 814, "_law_is_blend", "_law_is_blend", s_law_is_blend⟩,
  ⟨820, 819, "_law_bars", "_law_bars", s_law_bars⟩,
  ⟨827, 826, "_law_case_right", "_law_case_right", s_law_case_right⟩,
  ⟨834, 833, "_law_right", "_law_right", s_law_right⟩,
  ⟨839, 838, "law", "law", s_law⟩,
  ⟨347, 346, "__init__", "Frame.__init__", s_Frame_init⟩,
  ⟨352, 351, "turned", "Frame.turned", s_Frame_turned⟩,
  ⟨359, 358, "prices", "Frame.prices", s_Frame_prices⟩,
  ⟨366, 365, "leaving", "Frame.leaving", s_Frame_leaving⟩,
  ⟨392, 391, "__init__", "Outcome.__init__", s_Outcome_init⟩,
  ⟨462, 461, "__init__", "Table.__init__", s_Table_init⟩,
  ⟨479, 478, "columns", "Table.columns", s_Table_columns⟩,
  ⟨487, 486, "rows", "Table.rows", s_Table_rows⟩]
def defs : List DefP := defs0 ++ (defs1 ++ (defs2))

def addrs0 : List Addr := [3,
  369,
  368,
  395,
  394,
  556,
  555,
  480,
  488,
  347,
  352,
  359,
  366,
  392,
  462,
  479,
  487,
  232,
  233,
  240,
  247,
  252,
  259,
  271,
  278,
  285,
  292,
  299,
  311,
  316,
  321,
  328,
  333,
  378,
  404,
  409,
  414,
  421,
  428,
  433]
def addrs1 : List Addr := [438,
  574,
  595,
  600,
  605,
  612,
  617,
  622,
  627,
  632,
  637,
  642,
  649,
  654,
  661,
  668,
  675,
  682,
  689,
  696,
  703,
  710,
  717,
  724,
  731,
  738,
  745,
  752,
  757,
  762,
  767,
  774,
  781,
  786,
  791,
  798,
  803,
  810,
  815,
  820]
def addrs2 : List Addr := [827,
  834,
  839,
  239,
  246,
  251,
  258,
  270,
  277,
  284,
  291,
  298,
  310,
  315,
  320,
  327,
  332,
  377,
  403,
  408,
  413,
  420,
  427,
  432,
  437,
  573,
  594,
  599,
  604,
  611,
  616,
  621,
  626,
  631,
  636,
  641,
  648,
  653,
  660,
  667]
def addrs3 : List Addr := [674,
  681,
  688,
  695,
  702,
  709,
  716,
  723,
  730,
  737,
  744,
  751,
  756,
  761,
  766,
  773,
  780,
  785,
  790,
  797,
  802,
  809,
  814,
  819,
  826,
  833,
  838,
  346,
  351,
  358,
  365,
  391,
  461,
  478,
  486]
def addrs : List Addr := addrs0 ++ (addrs1 ++ (addrs2 ++ (addrs3)))

def facts0 : List Fact := [fun K => gloB K "is_whole" 240,
  fun K => gloB K "is_integer" 247,
  fun K => gloB K "is_name" 252,
  fun K => gloB K "is_tuple_of" 259,
  fun K => gloB K "common" 271,
  fun K => gloB K "lowest" 278,
  fun K => gloB K "minus" 285,
  fun K => gloB K "times" 292,
  fun K => gloB K "is_above" 299,
  fun K => gloB K "is_stretch" 311,
  fun K => gloB K "signs_of" 316,
  fun K => gloB K "are_signs" 321,
  fun K => gloB K "over" 328,
  fun K => gloB K "less" 333,
  fun K => gloB K "settled" 378,
  fun K => gloB K "begun" 404,
  fun K => gloB K "solved" 409,
  fun K => gloB K "without_fills" 414,
  fun K => gloB K "is_end_stretch" 421,
  fun K => gloB K "check_columns" 428,
  fun K => gloB K "is_row" 433,
  fun K => gloB K "check_rows" 438,
  fun K => gloB K "check_table" 574,
  fun K => gloB K "check_signs" 595,
  fun K => gloB K "end_row" 600]
def facts1 : List Fact := [fun K => gloB K "corner_of" 605,
  fun K => gloB K "corner" 612,
  fun K => gloB K "check_target" 617,
  fun K => gloB K "ends_at" 622,
  fun K => gloB K "most_row" 627,
  fun K => gloB K "least_row" 632,
  fun K => gloB K "cheapest_of" 637,
  fun K => gloB K "corner_rows" 642,
  fun K => gloB K "no_prices" 649,
  fun K => gloB K "all_corners" 654,
  fun K => gloB K "barring_of" 661,
  fun K => gloB K "mix_in" 668,
  fun K => gloB K "check_question" 675,
  fun K => gloB K "corner_mix" 682,
  fun K => gloB K "is_served" 689,
  fun K => gloB K "barring" 696,
  fun K => gloB K "_law_mug" 703,
  fun K => gloB K "_law_sip" 710,
  fun K => gloB K "_law_of" 717,
  fun K => gloB K "_law_low" 724,
  fun K => gloB K "_law_plus" 731,
  fun K => gloB K "_law_is_less" 738,
  fun K => gloB K "_law_sum" 745,
  fun K => gloB K "_law_stretch" 752,
  fun K => gloB K "_law_body" 757]
def facts2 : List Fact := [fun K => gloB K "_law_heads" 762,
  fun K => gloB K "_law_table" 767,
  fun K => gloB K "_law_aim" 774,
  fun K => gloB K "_law_marks" 781,
  fun K => gloB K "_law_ends" 786,
  fun K => gloB K "_law_wants" 791,
  fun K => gloB K "_law_cuts" 798,
  fun K => gloB K "_law_spots" 803,
  fun K => gloB K "_law_keeps" 810,
  fun K => gloB K "_law_is_blend" 815,
  fun K => gloB K "_law_bars" 820,
  fun K => gloB K "_law_case_right" 827,
  fun K => gloB K "_law_right" 834,
  fun K => gloB K "law" 839,
  fun K => gloB K "Frame" 369,
  fun K => gloB K "Outcome" 395,
  fun K => gloB K "Table" 556,
  fun K => (He.Fa.free "abs").ok K,
  fun K => (He.Fa.free "all").ok K,
  fun K => (He.Fa.free "divmod").ok K,
  fun K => (He.Fa.free "enumerate").ok K,
  fun K => (He.Fa.free "int").ok K,
  fun K => (He.Fa.free "isinstance").ok K,
  fun K => (He.Fa.free "len").ok K,
  fun K => (He.Fa.free "list").ok K]
def facts3 : List Fact := [fun K => (He.Fa.free "range").ok K,
  fun K => (He.Fa.free "repr").ok K,
  fun K => (He.Fa.free "tuple").ok K,
  fun K => (He.Fa.free "zip").ok K,
  fun K => (He.Fa.free "bool").ok K,
  fun K => (He.Fa.free "str").ok K,
  fun K => clsB K 369,
  fun K => mkrB K 369 347,
  fun K => clsB K 395,
  fun K => mkrB K 395 392,
  fun K => clsB K 556,
  fun K => mkrB K 556 462,
  fun K => noatB K 369 "lines",
  fun K => noatB K 369 "basis",
  fun K => noatB K 395 "word",
  fun K => noatB K 395 "point",
  fun K => noatB K 395 "cost",
  fun K => noatB K 395 "weights",
  fun K => noatB K 556 "heads",
  fun K => noatB K 556 "lines",
  fun K => methB K 369 "turned" 352,
  fun K => methB K 369 "prices" 359,
  fun K => methB K 369 "leaving" 366,
  fun K => (He.Fa.int "LONGEST_NAME" 8).ok K,
  fun K => (He.Fa.int "MOST_END" 10000).ok K]
def facts4 : List Fact := [fun K => (He.Fa.int "MOST_COLUMNS" 4).ok K,
  fun K => (He.Fa.int "MOST_ROWS" 8).ok K,
  fun K => (He.Fa.str "LETTERS" "abcdefghijklmnopqrstuvwxyz").ok K,
  fun K => gloB K "ZERO" 232,
  fun K => gloB K "ONE" 233,
  fun K => tupB K 232 [.int 0, .int 1],
  fun K => tupB K 233 [.int 1, .int 1],
  fun K => propB K 556 "columns" 480 479,
  fun K => propB K 556 "rows" 488 487,
  fun K => insB K 556]
def facts : List Fact := facts0 ++ (facts1 ++ (facts2 ++ (facts3 ++ (facts4))))

def nm0 : List PySem.Str := ["_wall", "WrongValue", "WrongName", "NotPossible", "InvalidText", "InvalidColumn", "InvalidTarget", "InvalidSigns", "NotATable", "InvalidColumns", "InvalidRows", "UnknownName", "TooFew", "LETTERS", "DIGITS", "LONGEST_NAME", "LONGEST_NUMBER", "ZERO", "ONE", "is_whole", "is_integer", "is_name", "is_tuple_of", "written", "common", "lowest", "minus", "times", "is_above", "signed"]
def nm1 : List PySem.Str := ["is_stretch", "signs_of", "are_signs", "over", "less", "Frame", "settled", "Outcome", "begun", "solved", "without_fills", "MOST_END", "MOST_COLUMNS", "MOST_ROWS", "is_end_stretch", "check_columns", "is_row", "check_rows", "row_told", "table_told", "Table", "stretch_at", "check_table", "check_name", "check_column", "check_signs", "end_row", "corner_of", "corner", "check_target"]
def nm2 : List PySem.Str := ["ends_at", "most_row", "least_row", "cheapest_of", "corner_rows", "no_prices", "all_corners", "barring_of", "mix_in", "check_question", "corner_mix", "is_served", "barring", "_law_mug", "_law_sip", "_law_of", "_law_low", "_law_plus", "_law_is_less", "_law_sum", "_law_stretch", "_law_body", "_law_heads", "_law_table", "_law_aim", "_law_marks", "_law_ends", "_law_wants", "_law_cuts", "_law_spots"]
def nm3 : List PySem.Str := ["_law_keeps", "_law_is_blend", "_law_bars", "_law_case_right", "_law_right"]
def names : List PySem.Str := nm0 ++ nm1 ++ nm2 ++ nm3
abbrev R : PySem.W.OpenRow := PySem.W.OpenLaw.row PySem.Challenge.rw_cornersure_k29_whole_corner_mixes_and_wh
abbrev qv : Program := PySem.W.view R.prog [101]
abbrev hk : PySem.W.Hook := hookP addrs facts defs
def ob (s : PySem.W.SharedT) : AlP := obsP addrs facts defs (HandSHeadRun.getT s)
theorem ob_eq (s : PySem.W.SharedT) : ob s = hk.obs s.abs := obsP_eq (HandSHeadRun.getT_eq s)
theorem run (w : World) : HandSHeadRun.RunEq R qv hk ob 7000 names w := by
  intro os
  kernel_rfl
theorem says_at {K : PySem.W.Frag} (c : SaysP addrs facts defs K) (i : Nat) {f : Fact} (h : facts[i]? = some f := by rfl) : f K = true := c.fact f (List.mem_of_getElem? h)
theorem says_def {K : PySem.W.Frag} (c : SaysP addrs facts defs K) (i : Nat) {d : DefP} (h : defs[i]? = some d := by rfl) (m1 : d.a ∈ addrs := by decide +kernel) (m2 : d.c ∈ addrs := by decide +kernel) : ∃ fd, Fun K d.name d.qual d.st d.a fd := c.defs d (List.mem_of_getElem? h) m1 m2
theorem tx_of {K : PySem.W.Frag} {h : Heap} {mg : Str → Option Value} (X : K.In h) (G : h.Ns mainGlobals mg) (c : SaysP addrs facts defs K) : Tx K mg := by
  have glo : ∀ {x : Str} {a : Addr}, gloB K x a = true → mg x = some (.ref a) := fun z => PySem.W.mg_of X G (He.eqO_ok z)
  obtain ⟨fd0, F0⟩ := says_def c 0 (d := ⟨240, 239, "is_whole", "is_whole", s_is_whole⟩)
  obtain ⟨fd1, F1⟩ := says_def c 1 (d := ⟨247, 246, "is_integer", "is_integer", s_is_integer⟩)
  obtain ⟨fd2, F2⟩ := says_def c 2 (d := ⟨252, 251, "is_name", "is_name", s_is_name⟩)
  obtain ⟨fd3, F3⟩ := says_def c 3 (d := ⟨259, 258, "is_tuple_of", "is_tuple_of", s_is_tuple_of⟩)
  obtain ⟨fd4, F4⟩ := says_def c 4 (d := ⟨271, 270, "common", "common", s_common⟩)
  obtain ⟨fd5, F5⟩ := says_def c 5 (d := ⟨278, 277, "lowest", "lowest", s_lowest⟩)
  obtain ⟨fd6, F6⟩ := says_def c 6 (d := ⟨285, 284, "minus", "minus", s_minus⟩)
  obtain ⟨fd7, F7⟩ := says_def c 7 (d := ⟨292, 291, "times", "times", s_times⟩)
  obtain ⟨fd8, F8⟩ := says_def c 8 (d := ⟨299, 298, "is_above", "is_above", s_is_above⟩)
  obtain ⟨fd9, F9⟩ := says_def c 9 (d := ⟨311, 310, "is_stretch", "is_stretch", s_is_stretch⟩)
  obtain ⟨fd10, F10⟩ := says_def c 10 (d := ⟨316, 315, "signs_of", "signs_of", s_signs_of⟩)
  obtain ⟨fd11, F11⟩ := says_def c 11 (d := ⟨321, 320, "are_signs", "are_signs", s_are_signs⟩)
  obtain ⟨fd12, F12⟩ := says_def c 12 (d := ⟨328, 327, "over", "over", s_over⟩)
  obtain ⟨fd13, F13⟩ := says_def c 13 (d := ⟨333, 332, "less", "less", s_less⟩)
  obtain ⟨fd14, F14⟩ := says_def c 14 (d := ⟨378, 377, "settled", "settled", s_settled⟩)
  obtain ⟨fd15, F15⟩ := says_def c 15 (d := ⟨404, 403, "begun", "begun", s_begun⟩)
  obtain ⟨fd16, F16⟩ := says_def c 16 (d := ⟨409, 408, "solved", "solved", s_solved⟩)
  obtain ⟨fd17, F17⟩ := says_def c 17 (d := ⟨414, 413, "without_fills", "without_fills", s_without_fills⟩)
  obtain ⟨fd18, F18⟩ := says_def c 18 (d := ⟨421, 420, "is_end_stretch", "is_end_stretch", s_is_end_stretch⟩)
  obtain ⟨fd19, F19⟩ := says_def c 19 (d := ⟨428, 427, "check_columns", "check_columns", s_check_columns⟩)
  obtain ⟨fd20, F20⟩ := says_def c 20 (d := ⟨433, 432, "is_row", "is_row", s_is_row⟩)
  obtain ⟨fd21, F21⟩ := says_def c 21 (d := ⟨438, 437, "check_rows", "check_rows", s_check_rows⟩)
  obtain ⟨fd22, F22⟩ := says_def c 22 (d := ⟨574, 573, "check_table", "check_table", s_check_table⟩)
  obtain ⟨fd23, F23⟩ := says_def c 23 (d := ⟨595, 594, "check_signs", "check_signs", s_check_signs⟩)
  obtain ⟨fd24, F24⟩ := says_def c 24 (d := ⟨600, 599, "end_row", "end_row", s_end_row⟩)
  obtain ⟨fd25, F25⟩ := says_def c 25 (d := ⟨605, 604, "corner_of", "corner_of", s_corner_of⟩)
  obtain ⟨fd26, F26⟩ := says_def c 26 (d := ⟨612, 611, "corner", "corner", s_corner⟩)
  obtain ⟨fd27, F27⟩ := says_def c 27 (d := ⟨617, 616, "check_target", "check_target", s_check_target⟩)
  obtain ⟨fd28, F28⟩ := says_def c 28 (d := ⟨622, 621, "ends_at", "ends_at", s_ends_at⟩)
  obtain ⟨fd29, F29⟩ := says_def c 29 (d := ⟨627, 626, "most_row", "most_row", s_most_row⟩)
  obtain ⟨fd30, F30⟩ := says_def c 30 (d := ⟨632, 631, "least_row", "least_row", s_least_row⟩)
  obtain ⟨fd31, F31⟩ := says_def c 31 (d := ⟨637, 636, "cheapest_of", "cheapest_of", s_cheapest_of⟩)
  obtain ⟨fd32, F32⟩ := says_def c 32 (d := ⟨642, 641, "corner_rows", "corner_rows", s_corner_rows⟩)
  obtain ⟨fd33, F33⟩ := says_def c 33 (d := ⟨649, 648, "no_prices", "no_prices", s_no_prices⟩)
  obtain ⟨fd34, F34⟩ := says_def c 34 (d := ⟨654, 653, "all_corners", "all_corners", s_all_corners⟩)
  obtain ⟨fd35, F35⟩ := says_def c 35 (d := ⟨661, 660, "barring_of", "barring_of", s_barring_of⟩)
  obtain ⟨fd36, F36⟩ := says_def c 36 (d := ⟨668, 667, "mix_in", "mix_in", s_mix_in⟩)
  obtain ⟨fd37, F37⟩ := says_def c 37 (d := ⟨675, 674, "check_question", "check_question", s_check_question⟩)
  obtain ⟨fd38, F38⟩ := says_def c 38 (d := ⟨682, 681, "corner_mix", "corner_mix", s_corner_mix⟩)
  obtain ⟨fd39, F39⟩ := says_def c 39 (d := ⟨689, 688, "is_served", "is_served", s_is_served⟩)
  obtain ⟨fd40, F40⟩ := says_def c 40 (d := ⟨696, 695, "barring", "barring", s_barring⟩)
  obtain ⟨fd41, F41⟩ := says_def c 41 (d := ⟨703, 702, "_law_mug", "_law_mug", s_law_mug⟩)
  obtain ⟨fd42, F42⟩ := says_def c 42 (d := ⟨710, 709, "_law_sip", "_law_sip", s_law_sip⟩)
  obtain ⟨fd43, F43⟩ := says_def c 43 (d := ⟨717, 716, "_law_of", "_law_of", s_law_of⟩)
  obtain ⟨fd44, F44⟩ := says_def c 44 (d := ⟨724, 723, "_law_low", "_law_low", s_law_low⟩)
  obtain ⟨fd45, F45⟩ := says_def c 45 (d := ⟨731, 730, "_law_plus", "_law_plus", s_law_plus⟩)
  obtain ⟨fd46, F46⟩ := says_def c 46 (d := ⟨738, 737, "_law_is_less", "_law_is_less", s_law_is_less⟩)
  obtain ⟨fd47, F47⟩ := says_def c 47 (d := ⟨745, 744, "_law_sum", "_law_sum", s_law_sum⟩)
  obtain ⟨fd48, F48⟩ := says_def c 48 (d := ⟨752, 751, "_law_stretch", "_law_stretch", s_law_stretch⟩)
  obtain ⟨fd49, F49⟩ := says_def c 49 (d := ⟨757, 756, "_law_body", "_law_body", s_law_body⟩)
  obtain ⟨fd50, F50⟩ := says_def c 50 (d := ⟨762, 761, "_law_heads", "_law_heads", s_law_heads⟩)
  obtain ⟨fd51, F51⟩ := says_def c 51 (d := ⟨767, 766, "_law_table", "_law_table", s_law_table⟩)
  obtain ⟨fd52, F52⟩ := says_def c 52 (d := ⟨774, 773, "_law_aim", "_law_aim", s_law_aim⟩)
  obtain ⟨fd53, F53⟩ := says_def c 53 (d := ⟨781, 780, "_law_marks", "_law_marks", s_law_marks⟩)
  obtain ⟨fd54, F54⟩ := says_def c 54 (d := ⟨786, 785, "_law_ends", "_law_ends", s_law_ends⟩)
  obtain ⟨fd55, F55⟩ := says_def c 55 (d := ⟨791, 790, "_law_wants", "_law_wants", s_law_wants⟩)
  obtain ⟨fd56, F56⟩ := says_def c 56 (d := ⟨798, 797, "_law_cuts", "_law_cuts", s_law_cuts⟩)
  obtain ⟨fd57, F57⟩ := says_def c 57 (d := ⟨803, 802, "_law_spots", "_law_spots", s_law_spots⟩)
  obtain ⟨fd58, F58⟩ := says_def c 58 (d := ⟨810, 809, "_law_keeps", "_law_keeps", s_law_keeps⟩)
  obtain ⟨fd59, F59⟩ := says_def c 59 (d := ⟨815, 814, "_law_is_blend", "_law_is_blend", s_law_is_blend⟩)
  obtain ⟨fd60, F60⟩ := says_def c 60 (d := ⟨820, 819, "_law_bars", "_law_bars", s_law_bars⟩)
  obtain ⟨fd61, F61⟩ := says_def c 61 (d := ⟨827, 826, "_law_case_right", "_law_case_right", s_law_case_right⟩)
  obtain ⟨fd62, F62⟩ := says_def c 62 (d := ⟨834, 833, "_law_right", "_law_right", s_law_right⟩)
  obtain ⟨fd63, F63⟩ := says_def c 63 (d := ⟨839, 838, "law", "law", s_law⟩)
  obtain ⟨fd64, F64⟩ := says_def c 64 (d := ⟨347, 346, "__init__", "Frame.__init__", s_Frame_init⟩)
  obtain ⟨fd65, F65⟩ := says_def c 65 (d := ⟨352, 351, "turned", "Frame.turned", s_Frame_turned⟩)
  obtain ⟨fd66, F66⟩ := says_def c 66 (d := ⟨359, 358, "prices", "Frame.prices", s_Frame_prices⟩)
  obtain ⟨fd67, F67⟩ := says_def c 67 (d := ⟨366, 365, "leaving", "Frame.leaving", s_Frame_leaving⟩)
  obtain ⟨fd68, F68⟩ := says_def c 68 (d := ⟨392, 391, "__init__", "Outcome.__init__", s_Outcome_init⟩)
  obtain ⟨fd69, F69⟩ := says_def c 69 (d := ⟨462, 461, "__init__", "Table.__init__", s_Table_init⟩)
  obtain ⟨fd70, F70⟩ := says_def c 70 (d := ⟨479, 478, "columns", "Table.columns", s_Table_columns⟩)
  obtain ⟨fd71, F71⟩ := says_def c 71 (d := ⟨487, 486, "rows", "Table.rows", s_Table_rows⟩)
  exact ⟨⟨_, fd0, F0, glo (says_at c 0 (f := fun K => gloB K "is_whole" 240))⟩,
    ⟨_, fd1, F1, glo (says_at c 1 (f := fun K => gloB K "is_integer" 247))⟩,
    ⟨_, fd2, F2, glo (says_at c 2 (f := fun K => gloB K "is_name" 252))⟩,
    ⟨_, fd3, F3, glo (says_at c 3 (f := fun K => gloB K "is_tuple_of" 259))⟩,
    ⟨_, fd4, F4, glo (says_at c 4 (f := fun K => gloB K "common" 271))⟩,
    ⟨_, fd5, F5, glo (says_at c 5 (f := fun K => gloB K "lowest" 278))⟩,
    ⟨_, fd6, F6, glo (says_at c 6 (f := fun K => gloB K "minus" 285))⟩,
    ⟨_, fd7, F7, glo (says_at c 7 (f := fun K => gloB K "times" 292))⟩,
    ⟨_, fd8, F8, glo (says_at c 8 (f := fun K => gloB K "is_above" 299))⟩,
    ⟨_, fd9, F9, glo (says_at c 9 (f := fun K => gloB K "is_stretch" 311))⟩,
    ⟨_, fd10, F10, glo (says_at c 10 (f := fun K => gloB K "signs_of" 316))⟩,
    ⟨_, fd11, F11, glo (says_at c 11 (f := fun K => gloB K "are_signs" 321))⟩,
    ⟨_, fd12, F12, glo (says_at c 12 (f := fun K => gloB K "over" 328))⟩,
    ⟨_, fd13, F13, glo (says_at c 13 (f := fun K => gloB K "less" 333))⟩,
    ⟨_, fd14, F14, glo (says_at c 14 (f := fun K => gloB K "settled" 378))⟩,
    ⟨_, fd15, F15, glo (says_at c 15 (f := fun K => gloB K "begun" 404))⟩,
    ⟨_, fd16, F16, glo (says_at c 16 (f := fun K => gloB K "solved" 409))⟩,
    ⟨_, fd17, F17, glo (says_at c 17 (f := fun K => gloB K "without_fills" 414))⟩,
    ⟨_, fd18, F18, glo (says_at c 18 (f := fun K => gloB K "is_end_stretch" 421))⟩,
    ⟨_, fd19, F19, glo (says_at c 19 (f := fun K => gloB K "check_columns" 428))⟩,
    ⟨_, fd20, F20, glo (says_at c 20 (f := fun K => gloB K "is_row" 433))⟩,
    ⟨_, fd21, F21, glo (says_at c 21 (f := fun K => gloB K "check_rows" 438))⟩,
    ⟨_, fd22, F22, glo (says_at c 22 (f := fun K => gloB K "check_table" 574))⟩,
    ⟨_, fd23, F23, glo (says_at c 23 (f := fun K => gloB K "check_signs" 595))⟩,
    ⟨_, fd24, F24, glo (says_at c 24 (f := fun K => gloB K "end_row" 600))⟩,
    ⟨_, fd25, F25, glo (says_at c 25 (f := fun K => gloB K "corner_of" 605))⟩,
    ⟨_, fd26, F26, glo (says_at c 26 (f := fun K => gloB K "corner" 612))⟩,
    ⟨_, fd27, F27, glo (says_at c 27 (f := fun K => gloB K "check_target" 617))⟩,
    ⟨_, fd28, F28, glo (says_at c 28 (f := fun K => gloB K "ends_at" 622))⟩,
    ⟨_, fd29, F29, glo (says_at c 29 (f := fun K => gloB K "most_row" 627))⟩,
    ⟨_, fd30, F30, glo (says_at c 30 (f := fun K => gloB K "least_row" 632))⟩,
    ⟨_, fd31, F31, glo (says_at c 31 (f := fun K => gloB K "cheapest_of" 637))⟩,
    ⟨_, fd32, F32, glo (says_at c 32 (f := fun K => gloB K "corner_rows" 642))⟩,
    ⟨_, fd33, F33, glo (says_at c 33 (f := fun K => gloB K "no_prices" 649))⟩,
    ⟨_, fd34, F34, glo (says_at c 34 (f := fun K => gloB K "all_corners" 654))⟩,
    ⟨_, fd35, F35, glo (says_at c 35 (f := fun K => gloB K "barring_of" 661))⟩,
    ⟨_, fd36, F36, glo (says_at c 36 (f := fun K => gloB K "mix_in" 668))⟩,
    ⟨_, fd37, F37, glo (says_at c 37 (f := fun K => gloB K "check_question" 675))⟩,
    ⟨_, fd38, F38, glo (says_at c 38 (f := fun K => gloB K "corner_mix" 682))⟩,
    ⟨_, fd39, F39, glo (says_at c 39 (f := fun K => gloB K "is_served" 689))⟩,
    ⟨_, fd40, F40, glo (says_at c 40 (f := fun K => gloB K "barring" 696))⟩,
    ⟨_, fd41, F41, glo (says_at c 41 (f := fun K => gloB K "_law_mug" 703))⟩,
    ⟨_, fd42, F42, glo (says_at c 42 (f := fun K => gloB K "_law_sip" 710))⟩,
    ⟨_, fd43, F43, glo (says_at c 43 (f := fun K => gloB K "_law_of" 717))⟩,
    ⟨_, fd44, F44, glo (says_at c 44 (f := fun K => gloB K "_law_low" 724))⟩,
    ⟨_, fd45, F45, glo (says_at c 45 (f := fun K => gloB K "_law_plus" 731))⟩,
    ⟨_, fd46, F46, glo (says_at c 46 (f := fun K => gloB K "_law_is_less" 738))⟩,
    ⟨_, fd47, F47, glo (says_at c 47 (f := fun K => gloB K "_law_sum" 745))⟩,
    ⟨_, fd48, F48, glo (says_at c 48 (f := fun K => gloB K "_law_stretch" 752))⟩,
    ⟨_, fd49, F49, glo (says_at c 49 (f := fun K => gloB K "_law_body" 757))⟩,
    ⟨_, fd50, F50, glo (says_at c 50 (f := fun K => gloB K "_law_heads" 762))⟩,
    ⟨_, fd51, F51, glo (says_at c 51 (f := fun K => gloB K "_law_table" 767))⟩,
    ⟨_, fd52, F52, glo (says_at c 52 (f := fun K => gloB K "_law_aim" 774))⟩,
    ⟨_, fd53, F53, glo (says_at c 53 (f := fun K => gloB K "_law_marks" 781))⟩,
    ⟨_, fd54, F54, glo (says_at c 54 (f := fun K => gloB K "_law_ends" 786))⟩,
    ⟨_, fd55, F55, glo (says_at c 55 (f := fun K => gloB K "_law_wants" 791))⟩,
    ⟨_, fd56, F56, glo (says_at c 56 (f := fun K => gloB K "_law_cuts" 798))⟩,
    ⟨_, fd57, F57, glo (says_at c 57 (f := fun K => gloB K "_law_spots" 803))⟩,
    ⟨_, fd58, F58, glo (says_at c 58 (f := fun K => gloB K "_law_keeps" 810))⟩,
    ⟨_, fd59, F59, glo (says_at c 59 (f := fun K => gloB K "_law_is_blend" 815))⟩,
    ⟨_, fd60, F60, glo (says_at c 60 (f := fun K => gloB K "_law_bars" 820))⟩,
    ⟨_, fd61, F61, glo (says_at c 61 (f := fun K => gloB K "_law_case_right" 827))⟩,
    ⟨_, fd62, F62, glo (says_at c 62 (f := fun K => gloB K "_law_right" 834))⟩,
    ⟨_, fd63, F63, glo (says_at c 63 (f := fun K => gloB K "law" 839))⟩,
    ⟨_, fd64, F64, mkrB_ok (says_at c 82 (f := fun K => mkrB K 369 347))⟩,
    ⟨_, fd65, F65, methB_ok (says_at c 95 (f := fun K => methB K 369 "turned" 352))⟩,
    ⟨_, fd66, F66, methB_ok (says_at c 96 (f := fun K => methB K 369 "prices" 359))⟩,
    ⟨_, fd67, F67, methB_ok (says_at c 97 (f := fun K => methB K 369 "leaving" 366))⟩,
    ⟨_, fd68, F68, mkrB_ok (says_at c 84 (f := fun K => mkrB K 395 392))⟩,
    ⟨_, fd69, F69, mkrB_ok (says_at c 86 (f := fun K => mkrB K 556 462))⟩,
    ⟨_, _, fd70, F70, propB_ok (says_at c 107 (f := fun K => propB K 556 "columns" 480 479))⟩,
    ⟨_, _, fd71, F71, propB_ok (says_at c 108 (f := fun K => propB K 556 "rows" 488 487))⟩,
    glo (says_at c 64 (f := fun K => gloB K "Frame" 369)),
    glo (says_at c 65 (f := fun K => gloB K "Outcome" 395)),
    glo (says_at c 66 (f := fun K => gloB K "Table" 556)),
    clsB_ok (says_at c 81 (f := fun K => clsB K 369)),
    clsB_ok (says_at c 83 (f := fun K => clsB K 395)),
    clsB_ok (says_at c 85 (f := fun K => clsB K 556)),
    He.eqO_ok (says_at c 87 (f := fun K => noatB K 369 "lines")),
    He.eqO_ok (says_at c 88 (f := fun K => noatB K 369 "basis")),
    He.eqO_ok (says_at c 89 (f := fun K => noatB K 395 "word")),
    He.eqO_ok (says_at c 90 (f := fun K => noatB K 395 "point")),
    He.eqO_ok (says_at c 91 (f := fun K => noatB K 395 "cost")),
    He.eqO_ok (says_at c 92 (f := fun K => noatB K 395 "weights")),
    He.eqO_ok (says_at c 93 (f := fun K => noatB K 556 "heads")),
    He.eqO_ok (says_at c 94 (f := fun K => noatB K 556 "lines")),
    insB_ok (clsB_ok (says_at c 85 (f := fun K => clsB K 556))) (says_at c 109 (f := fun K => insB K 556)),
    He.free_ok X G (says_at c 67 (f := fun K => (He.Fa.free "abs").ok K)),
    He.free_ok X G (says_at c 68 (f := fun K => (He.Fa.free "all").ok K)),
    He.free_ok X G (says_at c 69 (f := fun K => (He.Fa.free "divmod").ok K)),
    He.free_ok X G (says_at c 70 (f := fun K => (He.Fa.free "enumerate").ok K)),
    He.free_ok X G (says_at c 71 (f := fun K => (He.Fa.free "int").ok K)),
    He.free_ok X G (says_at c 72 (f := fun K => (He.Fa.free "isinstance").ok K)),
    He.free_ok X G (says_at c 73 (f := fun K => (He.Fa.free "len").ok K)),
    He.free_ok X G (says_at c 74 (f := fun K => (He.Fa.free "list").ok K)),
    He.free_ok X G (says_at c 75 (f := fun K => (He.Fa.free "range").ok K)),
    He.free_ok X G (says_at c 76 (f := fun K => (He.Fa.free "repr").ok K)),
    He.free_ok X G (says_at c 77 (f := fun K => (He.Fa.free "tuple").ok K)),
    He.free_ok X G (says_at c 78 (f := fun K => (He.Fa.free "zip").ok K)),
    He.free_ok X G (says_at c 79 (f := fun K => (He.Fa.free "bool").ok K)),
    He.free_ok X G (says_at c 80 (f := fun K => (He.Fa.free "str").ok K)),
    He.int_ok X G (says_at c 98 (f := fun K => (He.Fa.int "LONGEST_NAME" 8).ok K)),
    He.int_ok X G (says_at c 99 (f := fun K => (He.Fa.int "MOST_END" 10000).ok K)),
    He.int_ok X G (says_at c 100 (f := fun K => (He.Fa.int "MOST_COLUMNS" 4).ok K)),
    He.int_ok X G (says_at c 101 (f := fun K => (He.Fa.int "MOST_ROWS" 8).ok K)),
    He.str_ok X G (says_at c 102 (f := fun K => (He.Fa.str "LETTERS" "abcdefghijklmnopqrstuvwxyz").ok K)),
    glo (says_at c 103 (f := fun K => gloB K "ZERO" 232)),
    glo (says_at c 104 (f := fun K => gloB K "ONE" 233)),
    tupB_ok (says_at c 105 (f := fun K => tupB K 232 [.int 0, .int 1])),
    tupB_ok (says_at c 106 (f := fun K => tupB K 233 [.int 1, .int 1]))⟩
end Hd
set_option Elab.async false
set_option linter.all false
set_option maxRecDepth 100000
set_option maxHeartbeats 0
namespace Fn
open PySem PySem.W
    PySem.Calls PyProof.Rows
abbrev L : OpenLaw := PySem.Challenge.rw_cornersure_k29_whole_corner_mixes_and_wh
abbrev R : OpenRow := OpenLaw.row L
abbrev dl : DefRec := HandSHeadRun.topDef R.prog 101
theorem e1 : opening R.prog = plainProg R.prog.main.scope.names := by kernel_rfl
theorem e2 (s) : fenceModules? R.prog s = some s := by kernel_rfl
theorem e3 : defOf Hd.qv R.name = some (dl, []) := by kernel_rfl
theorem e4 : R.prog.theDef R.name = some (dl.params, dl.body, dl.scope) := by kernel_rfl
theorem e5 : kwWritten? dl.params.kwonlyargs dl.params.kw_defaults = some [] := by kernel_rfl
theorem e6 : (!R.writes || R.records.isEmpty) = true := by rfl
theorem e7 : R.wellSaid = true := by first | assumption | decide +kernel
theorem e8 : (chainsOk Hd.qv && opensWell R.prog && (frees R.toRowW && R.within.isEmpty)) = true := by decide +kernel
theorem e9 : R.prog.bare := ⟨rfl, rfl, rfl, rfl, rfl, by decide +kernel⟩
theorem e10 : dl.name = ("law" : PySem.Str) := by kernel_rfl
theorem e11 : dl.params.defaults = [] := by kernel_rfl
end Fn
set_option Elab.async false
set_option linter.all false
set_option maxRecDepth 100000
set_option maxHeartbeats 0
namespace Fn
open PySem PySem.W
    PySem.Calls PyProof.Rows
theorem and4 {a b : Bool} (x : a = true) (y : b = true) : (a && b) = true := by rw [x, y]; rfl
theorem e0 : L.wellSaid = true := by
  unfold OpenLaw.wellSaid
  repeat' (first | with_reducible exact e7 | with_reducible apply and4 | (with_unfolding_all decide +kernel))
end Fn
set_option Elab.async false
set_option linter.all false
set_option maxRecDepth 100000
set_option maxHeartbeats 4200000
/-! Operations that the layer lacks: a tuple times a number from 1 on, repr of a truth value. -/
namespace Dl
open PySem PySem.Spec PyProof.Rows L2 StX Builtin
theorem tuple_mul1 (l : Addr) (items : Array Value) (n : Nat) (dd : Option Addr) (sl : Array (Option Value)) (u : Tok) (he : items.isEmpty = false) :
    Meets (Builtin.«tuple.__mul__» ⟨[.ref l, .int 1 u], []⟩) (fun _ R s => s.heap.get? l = some { cls := .type "tuple", dict := dd, data := .seq items n, slots := sl } ∧ R (.ok (.ret (Value.ref l))) s) :=
  .of_wp fun prog w A R s h =>
      by
    obtain ⟨hp, g, d, tk, os⟩
        := s
    obtain ⟨hl, h⟩ := h
    have f1 := AutoSeq1.idx_int
    wp_walk using wpAny_loadPart'
        hl
    exact ⟨_, rfl, h⟩
/-- t * n, a tuple that is not empty, n from 1 on -/
def rRepN (K : PySem.W.Frag) : R2 := fun x y H Q => rRepT K x y H Q ∨ ∃ l xs, x = .ref l ∧ y = .int 1 ∧ SqT K H l xs ∧ xs ≠ [] ∧ Q (.ref l) H
theorem op_repT1 {X : Cx} : OpR X (binaryOp .Mult) (rRepN X.K) := by
  intro pins s σ H x y v u Q I rx
      ry h
  rcases h with h | ⟨l, xs, ex, ey, hT, hn, q⟩
  · exact op_repT pins s σ H x y v u Q I rx ry h
  · subst ex ey
    cases rx
    obtain ⟨t, ht⟩ := ry
    subst ht
    obtain ⟨its, r, ⟨⟨oc, dd, dt, sl⟩, ho, hc, n, hd⟩, _⟩ := I.tuple hT
    dsimp only at hc hd
    subst hc hd
    have hi : its.toArray.isEmpty = false :=
        by
      cases its with
      | nil =>
        cases r
        exact absurd rfl hn
      | cons a b => rfl
    exact wpAny_binaryOp_repeat_ref (T := "tuple") (U := "int") (by decide) ⟨_, ho, rfl⟩ (fun s' => typeIs_int s' 1 t) noFill_tuple_mul F.fills_int_mul F.slot_int_rmul repeat_tuple F.slot_int_index.lookup
      (call_meets F.slot_int_rmul (typeIs_int s 1 t) F.entry_int_rmul (F.args_int_rmul_2 _ _) (int_rmul_tuple 1 t l its.toArray n dd sl) ⟨ho, rfl, ⟨_, ho, rfl⟩,
        call_meets F.slot_tuple_mul ⟨_, ho, rfl⟩ F.entry_tuple_mul (F.args_tuple_mul_2 _ _) (tuple_mul1 l its.toArray n dd sl t hi) ⟨ho, .ref l, H, I, rfl, q⟩⟩)
theorem od_repN {K : PySem.W.Frag} : OpD K (rRepN K) fun da db P => ∃ ds k, da = .tup ds ∧ db = .int k ∧ (1 ≤ k ∧ k ≤ 1000) ∧ (1 ≤ ds.length ∧ ds.length ≤ 100) ∧ P (.tup (List.replicate k.toNat ds).flatten) := fun ρ σ Hk H2 da db x y A ra rb P Q ⟨ds, k, e1, e2, hk, hl, p⟩ q => by
  by_cases h1 : k = 1
  · refine .inr ?_
    subst h1 e1 e2
    obtain ⟨a, xs, rfl, hs, hr⟩ := ra
    have e : (List.replicate (1 : Int).toNat ds).flatten = ds := by
      show (List.replicate 1 ds).flatten = ds
      simp
    rw [e] at p
    refine ⟨a, xs, rfl, rb, sameT A.sub hs, fun z => ?_, q _ _ Hk H2 p A .refl ⟨a, xs, rfl, hs, hr⟩⟩
    have hl2 := hr.length
    rw [z] at hl2
    have : ds.length = 0 := hl2.symm
    omega
  · exact .inl (od_repT ρ σ Hk H2 da db x y A ra rb P Q ⟨ds, k, e1, e2, ⟨by omega, hk.2⟩, hl, p⟩ q)
theorem call_repr_bl {X : Cx} : CallR X (.builtin "repr") (fun xs H Q => ∃ b : Bool, xs = [.bl b] ∧ Q (.str (if b = true then "True" else "False")) H) := by
  intro pins s σ H xs us Q I
      r h
  obtain ⟨b, rfl, q⟩ := h
  obtain ⟨u, rfl, hu⟩ := vals1 r
  cases hu
  exact PySem.P.repr_of_bool ⟨.str _, H, I.tok _, ⟨_, rfl⟩, q⟩
theorem ca_repr {K : PySem.W.Frag} : CaD K (fun xs H Q => ∃ b : Bool, xs = [.bl b] ∧ Q (.str (if b = true then "True" else "False")) H) fun ds P => ∃ b : Bool, ds = [.bl b] ∧ P (.str (if b = true then "True" else "False")) := fun ρ σ Hk H2 ds xs A r P Q ⟨b, e1, p⟩ q => by
  subst e1
  obtain ⟨y, ys, rfl, r1, hn⟩ := r
  obtain rfl : ys = [] := hn
  obtain rfl : y = .bl b := r1
  exact ⟨b, rfl, q _ _ Hk H2 p A .refl rfl⟩
end Dl
set_option Elab.async false
set_option linter.all false
set_option maxRecDepth 100000
set_option maxHeartbeats 4200000
/-! Iterators that the layer lacks: enumerate of a tuple, zip of a tuple and a list. -/
namespace Dl
open PySem PySem.Spec PyProof.Rows L2 StX
theorem tup_ne {h : Heap} {a b : Addr} {its : Array Value} {o : Obj} (ht : h.IsTuple a its) (ho : h.get? b = some o) (hc : o.cls ≠ .type "tuple") : a ≠ b := fun e => by
  obtain ⟨u, hu, hcu, _⟩ := ht
  rw [e, ho] at hu
  obtain rfl := Option.some.inj hu
  exact hc hcu
/-! ### enumerate(tuple) -/
def ItA (K : PySem.W.Frag) (a : Addr) : It :=
  ⟨fun i H => ∃ (zs : List V) (z : V), SqT K H a zs ∧ zs[i]? = some z, fun i H v H' => ∃ N z, v = .ref N ∧ H N = none ∧ H' = upd H N (.tup [.int (i : Nat), z]) ∧ ∀ zs, SqT K H a zs → zs[i]? = some z, fun i H => ∃ zs : List V, SqT K H a zs ∧ zs.length = i⟩
theorem turnA {P : Program} {w : World} {K : PySem.W.Frag} {els : List Expr} {kx : Nat} {tp : Pos} (a e j : Addr) :
    Turn P w K (.Tuple els kx tp) (ItA K a) [e, j] e (fun i hp => (∃ old, IsEnum hp e j (0 + ((i : Nat) : Int)) old) ∧ hp.IsTupleIter j a i ∧ e ≠ j) where
  mem := by simp
  obj := fun i hp st c hc => by
    obtain ⟨⟨old, h1⟩, ⟨o, h2, _, h3⟩, _⟩ := st
    rcases (show c = e ∨ c = j by simpa using hc) with q | q
    · subst q; exact ⟨_, h1, fun v z => by cases z⟩
    · subst q; exact ⟨o, h2, fun v z => by rw [h3] at z; cases z⟩
  keep := fun i hp hp' st k => let ⟨⟨old, h1⟩, h2, h3⟩ := st; ⟨⟨old, k e (by simp) _ h1⟩, h2.at fun o q => k j (by simp) o q, h3⟩
  item := by
    intro X hP hw hK hc i pins s σ H E I hf st
        hg
    subst hP hw hK
    obtain ⟨⟨old, he⟩, hj, hne⟩ := st
    obtain ⟨zs, z, hq, hz⟩ := hg
    obtain ⟨its, rv, p, _⟩ := I.tuple hq
    obtain ⟨u, hu, ru⟩ := rv.get
        hz
    obtain ⟨oj, hoj, hcj, _⟩ := id hj
    have el : e < s.heap.objs.size := Heap.lt_size he
    have jl : j < s.heap.objs.size := Heap.lt_size hoj
    have na : a ≠ j := tup_ne p hoj (by rw [hcj]; decide)
    have ne : a ≠ e := tup_ne p he (fun y => by simp at y)
    have hlen : i < its.length := (List.getElem?_eq_some_iff.mp hu).1
    refine wpAny_pyNext_enum_itemC (Draws.tuple (prog := X.prog) (w := X.w) (A := X.A.in1) (I.ok.hd hc) j a na its.toArray) he ⟨hj, p⟩ (by simpa using hlen) hne (by simp only [List.mem_cons, List.not_mem_nil, or_false, not_or]; exact ⟨hne, Ne.symm ne⟩) fun y h1 tk hy ho hst hT hsz hk => ?_
    obtain rfl : u = y := by
      rw [List.getElem?_toArray, hu] at hy
      exact Option.some.inj hy
    refine ⟨_, rfl, wpAny_letOwnedTupleGo_enum (s := { s with heap := h1, toks := tk + 1 }) ho fun h2 he2 sb => ?_⟩
    have hT2 : h2.get? s.heap.objs.size = some { cls := .type "tuple", data := .seq #[.int (0 + (i : Int)) tk, u] } := (sb.2 _ (Nat.ne_of_gt el)).trans hT
    have zi : (0 + (i : Int)) = ((i : Nat) : Int) := by omega
    have new : ObjOk X.prog X.w (upd H s.heap.objs.size (.tup [.int (i : Nat), z])) h2 s.heap.objs.size (.tup [.int (i : Nat), z]) :=
      ⟨by show 2 ≤ sizeLine; decide, [.int (0 + (i : Int)) tk, u], .cons ⟨tk, by rw [zi]⟩ (.cons ru .nil), ⟨_, hT2, rfl, _, rfl⟩⟩
    have I1 : Inv X pins σ (upd H s.heap.objs.size (.tup [.int (i : Nat), z])) { s with heap := h2, toks := tk + 1 } :=
      I.turnedNew (ch := [e, j]) (fun c o hn q => (sb.2 c (fun y => hn (by simp [y]))).trans (hk c o (fun y => hn (by simp [y])) (fun y => hn (by simp [y])) q)) hf (Nat.le_refl _) new
    refine ⟨.ref s.heap.objs.size, _, I1, rfl, ⟨_, z, rfl, I.hok.fresh (Nat.le_refl _), rfl, fun ys hy => by rw [I.tuple_inj hy hq]; exact hz⟩, ⟨⟨u, ?_⟩, hst.1.at fun o q => (sb.2 j (Ne.symm hne)).trans q, hne⟩, fun c hcm => ?_⟩
    · have e1 : 0 + ((i + 1 : Nat) : Int) = 0 + (i : Int) + 1 := by omega
      rw [e1]; exact he2
    · have lt : c < s.heap.objs.size := by
        rcases (show c = e ∨ c = j by simpa using hcm) with q | q
        · rw [q]; exact el
        · rw [q]; exact jl
      rw [upd_ne (Nat.ne_of_lt lt)]
      exact (hf c hcm).1
  done := by
    intro X hP hw hK hc i pins s σ H E I hf st
        hg
    subst hP hw hK
    obtain ⟨⟨old, he⟩, hj, hne⟩ := st
    obtain ⟨zs, hq, hz⟩ := hg
    obtain ⟨its, rv, p, _⟩ := I.tuple hq
    obtain ⟨oj, hoj, hcj, _⟩ := id hj
    have na : a ≠ j := tup_ne p hoj (by rw [hcj]; decide)
    have ei : i = its.toArray.size := by rw [← hz, rv.length, List.size_toArray]
    obtain ⟨f0, f1, f2, f3, f4, f5⟩ := hf j (by simp)
    exact wpAny_pyNext_enum_endD (Draws.tuple (prog := X.prog) (w := X.w) (A := X.A.in1) (I.ok.hd hc) j a na its.toArray) he ⟨by rw [← ei]; exact hj, p⟩ fun h1 eb => ⟨rfl, I.turned (t' := s.toks) (fun b o hb q => eb b o hb q) f0 f1 f3 f4 f5⟩
  self := fun A i s Q E st h => let ⟨⟨_, he⟩, _⟩ := st; wpAny_pyIter_enum
      he h
def iEnumA (K : PySem.W.Frag) (ta : TA) : TI := fun σ H R => ta σ H fun vs H1 => ∃ a zs, vs = [.ref a] ∧ SqT K H1 a zs ∧ R (ItA K a) H1
/-- enumerate.__new__ of what an iterator is made for -/
theorem new_enum {v : Value} {ix : Heap → Addr} {G : Heap → Prop} {mk : Heap → Heap} (it : ∀ (prog : Program) (w : World) (A : Around) (E : Value → Shared → Prop) (s : Shared) (Q : Value → Shared → Prop), G s.heap → Q (.ref (ix s.heap)) { s with heap := mk s.heap } → wpAny (model prog w) A (pyIter v) Q E s) :
    Meets (Builtin.«enumerate.__new__» ⟨[.type "enumerate", v], []⟩) (fun _ R s => G s.heap ∧
      R (.ok (.ret (.ref (mk s.heap).objs.size))) { s with heap := (mk s.heap).push { cls := .type "enumerate", data := .fields #[.none, .bool false, .ref (ix s.heap), rawInt 0, .none, .none] } }) :=
  .of_wp fun pr wd A R s h => by
    obtain ⟨hp1, gg, dd, tk1, os1⟩ := s
    obtain ⟨h1, h⟩ := h
    have hs0 := sub_enumerate
    have go : ∀ {A' : Around} {E : Value → Shared → Prop} {Q : Value → Shared → Prop}, Q (.ref (ix hp1)) ⟨mk hp1, gg, dd, tk1, os1⟩ → wpAny (model pr wd) A' (pyIter v) Q E ⟨hp1, gg, dd, tk1, os1⟩ :=
      fun q => it pr wd _ _ ⟨hp1, gg, dd, tk1, os1⟩ _ h1 q
    wp_walk using go
    refine wpAny_stack_any fun st => wpAny_pure
        ?_
    split
    · rename_i c _ _ _ _ _
      cases (c == Value.type
          "enumerate")
      all_goals
        wp_walk using go
        exact ⟨_, rfl, h⟩
    · wp_walk using go
      exact ⟨_, rfl, h⟩
section
variable {A : Around} {pr : Program} {w : World} {s : Shared} {E : Value → Shared → Prop}
theorem call_enumT {t : Addr} {its : Array Value} {Q : Value → Shared → Prop} (ht : s.heap.IsTuple t its)
    (h : ∀ h', IsEnum h' (s.heap.objs.size + 1) s.heap.objs.size 0 .none → h'.IsTupleIter s.heap.objs.size t 0 → h'.objs.size = s.heap.objs.size + 2 → (∀ b o, s.heap.get? b = some o → h'.get? b = some o) → Q (.ref (s.heap.objs.size + 1)) { s with heap := h' }) :
    wpAny (model pr w) A (call (.type "enumerate") [.ref t]) Q E s := by
  refine callType_new F.called_enumerate (by decide) (F.typeCall_enumerate_1 _) (F.newCall_enumerate_1 _) (fun ob => F.args_object_init_2 ob _) F.entry_enumerate_new
    (new_enum (v := .ref t) (ix := fun hp => hp.objs.size) (G := fun hp => hp.IsTuple t its) (mk := fun hp => hp.push { cls := .type "tuple_iterator", data := .fields #[.ref t, .int 0 0] }) fun pr wd A E s Q g q => wpAny_pyIter_tuple g q) ⟨ht, ?_⟩
  have zz : (s.heap.push { cls := .type "tuple_iterator", data := .fields #[.ref t, .int 0 0] }).objs.size = s.heap.objs.size + 1 := Heap.size_push ..
  show _ ∧ _
  rw [zz]
  have he := Heap.get?_push_size (s.heap.push { cls := .type "tuple_iterator", data := .fields #[.ref t, .int 0 0] }) (o := { cls := .type "enumerate", data := .fields #[.none, .bool false, .ref s.heap.objs.size, rawInt 0, .none, .none] }) rfl
  rw [zz] at he
  exact ⟨⟨_, he, rfl⟩, h _ he ⟨_, Heap.get?_push_of_some _ (Heap.get?_push_size _ rfl), rfl, rfl⟩ (by rw [Heap.size_push, zz]) fun b o x => Heap.get?_push_of_some _ (Heap.get?_push_of_some _ x)⟩
end
theorem pi_enumT {X : Cx} {x : Expr} {ta : TA} {p pos tp : Pos} {els : List Expr} {kx : Nat} (hg : Gl X "enumerate") (hm : X.mg "enumerate" = none) (ha : PA X [x] ta) (hs : starEach [x] X.env = [(false, eval x X.env)] := by rfl) :
    PI X (.Tuple els kx tp) (.Call (.Name "enumerate" p) [x] [] pos) (iEnumA X.K ta) := by
  refine ⟨fun pins s σ H R I h =>
      ?_⟩
  refine Call_ (ld_blt I hg hm boot_enumerate (PyProof.Rows.callWith_type1 (thn (ha.run pos pins s σ H _ I h) fun us s1 ⟨vs, H1, I1, r1, a, zs, ex, hq, q⟩ => ?_) hs rfl))
  subst ex
  cases r1 with
  | cons r rr =>
    cases rr
    cases r
    obtain ⟨its, rv, p', _⟩ := I1.tuple hq
    refine call_enumT p' fun h' he hj hsz hk => wpAny_pyIter_enum he ?_
    have I2 : Inv X pins σ H1 { s1 with heap := h' } := I1.kept (t' := s1.toks)
        hk
    refine ⟨s1.heap.objs.size + 1, [s1.heap.objs.size + 1, s1.heap.objs.size], _, _, H1, rfl, I2, turnA a (s1.heap.objs.size + 1) s1.heap.objs.size, ⟨⟨.none, he⟩, hj, Nat.succ_ne_self _⟩, fun c hc => ?_, q⟩
    have le : s1.heap.objs.size ≤ c := by
      rcases (show c = s1.heap.objs.size + 1 ∨ c = s1.heap.objs.size by simpa using hc) with z | z
      · rw [z]; exact Nat.le_add_right
            _ _
      · rw [z]; exact Nat.le_refl _
    exact I1.fpOk le (I1.hok.fresh le)
end Dl
set_option Elab.async false
set_option linter.all false
set_option maxRecDepth 100000
set_option maxHeartbeats 4200000
/-! zip of a tuple and a list; enumerate of a zip of two lists. -/
namespace Dl
open PySem PySem.Spec PyProof.Rows L2 StX
/-! ### zip(tuple, list) -/
def ItB (K : PySem.W.Frag) (a b : Addr) : It :=
  ⟨fun i H => ∃ (us vs : List V) (u v : V), SqT K H a us ∧ SqL K H b vs ∧ us[i]? = some u ∧ vs[i]? = some v,
    fun i H r H' => ∃ N u v, r = .ref N ∧ H N = none ∧ H' = upd H N (.tup [u, v]) ∧ (∀ us, SqT K H a us → us[i]? = some u) ∧ ∀ vs, SqL K H b vs → vs[i]? = some v,
    fun i H => ∃ us vs : List V, SqT K H a us ∧ SqL K H b vs ∧ i ≤ us.length ∧ i ≤ vs.length ∧ (i = us.length ∨ i = vs.length)⟩
theorem five {b v w x y z : Addr} : b ∈ [v, w, x, y, z] ↔ b = v ∨ b = w ∨ b = x ∨ b = y ∨ b = z := by simp
theorem sepOf {z TI TO i1 i2 a b : Addr} (D : ZipApart z TI TO i1 i2 a b) : ZipSep2 z TI TO i1 i2 [i1, a] [i2, b] := by
  refine ⟨D.TIz, D.TOz, D.TITO, D.TIi1, by simp, ?_, ?_, D.TIi2, by simp, ?_, ?_, ?_, ?_⟩ <;> simp only [List.mem_cons, List.not_mem_nil, or_false, not_or]
  · exact ⟨D.i1z.symm, D.l1z.symm⟩
  · exact ⟨D.TOi1, D.l1TO.symm⟩
  · exact ⟨D.i2z.symm, D.l2z.symm⟩
  · exact ⟨D.TOi2, D.l2TO.symm⟩
  · exact ⟨D.i12, D.l2i1.symm⟩
  · exact ⟨D.i12.symm, D.l1i2.symm⟩
theorem turnB {P : Program} {w : World} {K : PySem.W.Frag} {els : List Expr} {kx : Nat} {tp : Pos} {a b z TI TO i1 i2 : Addr} (D : ZipApart z TI TO i1 i2 a b) :
    Turn P w K (.Tuple els kx tp) (ItB K a b) [z, TI, TO, i1, i2] z (fun i hp => IsZip hp z TI TO .none ∧ IsPair hp TI (.ref i1) (.ref i2) ∧ (∃ u v, IsPair hp TO u v) ∧ hp.IsTupleIter i1 a i ∧ hp.IsListIter i2 b i) where
  mem := by simp
  obj := fun i hp st c hc => by
    obtain ⟨g1, g2, ⟨u, v, g3⟩, ⟨o1, e1, _, d1⟩, ⟨o2, e2, _, d2⟩⟩ := st
    rcases five.mp hc with q | q | q | q | q <;> subst q
    · exact ⟨_, g1, fun v q => by cases q⟩
    · exact ⟨_, g2, fun v q => by cases q⟩
    · exact ⟨_, g3, fun v q => by cases q⟩
    · exact ⟨o1, e1, fun v q => by rw [d1] at q; cases q⟩
    · exact ⟨o2, e2, fun v q => by rw [d2] at q; cases q⟩
  keep := fun i hp hp' st k => by
    obtain ⟨g1, g2, ⟨u, v, g3⟩, g4, g5⟩ := st
    exact ⟨k z (by simp) _ g1, k TI (by simp) _ g2, ⟨u, v, k TO (by simp) _ g3⟩, g4.at fun o q => k i1 (by simp) o q, g5.at fun o q => k i2 (by simp) o q⟩
  item := by
    intro X hP hw hK hc i pins s σ H E I hf st
        hg
    subst hP hw hK
    obtain ⟨g1, g2, ⟨u0, v0, g3⟩, g4, g5⟩ := st
    obtain ⟨us, vs, u, v, qu, qv, hu, hv⟩ := hg
    obtain ⟨its, rv, p, _⟩ := I.tuple qu
    obtain ⟨jts, sv, q, _⟩ := I.list qv
    obtain ⟨x, hx, rx⟩ := rv.get hu
    obtain ⟨y, hy, ry⟩ := sv.get hv
    have zl : z < s.heap.objs.size := Heap.lt_size g1
    have l1 : i < its.length := (List.getElem?_eq_some_iff.mp hx).1
    have l2 : i < jts.length := (List.getElem?_eq_some_iff.mp hy).1
    refine wpAny_pyNext_zipD2_item (sepOf D) (Draws.tuple (prog := X.prog) (w := X.w) (A := X.A.in1) (I.ok.hd hc) i1 a D.l1i1 its.toArray) (Draws.list (prog := X.prog) (w := X.w) (A := X.A.in1) (I.ok.hd hc) i2 b D.l2i2 jts.toArray) g1 g2 g3 ⟨g4, p⟩ ⟨g5, q.isList⟩ (by simpa using l1) (by simpa using l2) fun x1 y1 h1 tk hx1 hy1 z1 t1 s1 s2 hT hsz hk => ?_
    obtain rfl : x = x1 := by rw [List.getElem?_toArray, hx] at hx1; exact Option.some.inj hx1
    obtain rfl : y = y1 := by rw [List.getElem?_toArray, hy] at hy1; exact Option.some.inj hy1
    refine ⟨_, rfl, wpAny_letOwnedTupleGo_zip (s := { s with heap := h1, toks := tk }) z1 fun h2 z2 sb => ?_⟩
    have hT2 : h2.get? s.heap.objs.size = some { cls := .type "tuple", data := .seq #[x, y] } := (sb.2 _ (Nat.ne_of_gt zl)).trans hT
    have new : ObjOk X.prog X.w (upd H s.heap.objs.size (.tup [u, v])) h2 s.heap.objs.size (.tup [u, v]) := ⟨by show 2 ≤ sizeLine; decide, [x, y], .cons rx (.cons ry .nil), ⟨_, hT2, rfl, _, rfl⟩⟩
    have I1 : Inv X pins σ (upd H s.heap.objs.size (.tup [u, v])) { s with heap := h2, toks := tk } :=
      I.turnedNew (ch := [z, TI, TO, i1, i2]) (fun c o n e => (sb.2 c (fun m => n (by simp [m]))).trans (hk c o (fun m => n (by simp [m])) (fun m => n (by simp [m])) (fun m => n (by simp [m])) (fun m => n (by simp [m])) e)) hf (Nat.le_refl _) new
    refine ⟨.ref s.heap.objs.size, _, I1, rfl, ⟨_, u, v, rfl, I.hok.fresh (Nat.le_refl _), rfl, fun l hl => by rw [I.tuple_inj hl qu]; exact hu, fun l hl => by rw [I.list_inj hl qv]; exact hv⟩, ⟨z2, ?_, ⟨x, y, ?_⟩, ?_, ?_⟩, fun c hcm => ?_⟩
    · exact (sb.2 _ D.TIz).trans (hk _ _ D.TIz D.TITO D.TIi1 D.TIi2 g2)
    · exact (sb.2 _ D.TOz).trans t1
    · exact s1.1.at fun o e => (sb.2 _ D.i1z).trans e
    · exact s2.1.at fun o e => (sb.2 _ D.i2z).trans e
    · have lt : c < s.heap.objs.size := by
        rcases five.mp hcm with m | m | m | m | m <;> rw [m]
        · exact zl
        · exact Heap.lt_size g2
        · exact Heap.lt_size g3
        · obtain ⟨_, e1, _⟩ := g4; exact Heap.lt_size e1
        · obtain ⟨_, e2, _⟩ := g5; exact Heap.lt_size e2
      rw [upd_ne (Nat.ne_of_lt lt)]
      exact (hf c hcm).1
  done := by
    intro X hP hw hK hc i pins s σ H E I hf st
        hg
    subst hP hw hK
    obtain ⟨g1, g2, ⟨u0, v0, g3⟩, g4, g5⟩ := st
    obtain ⟨us, vs, qu, qv, le1, le2, fin⟩ := hg
    obtain ⟨its, rv, p, _⟩ := I.tuple qu
    obtain ⟨jts, sv, q, _⟩ := I.list qv
    have n1 : us.length = its.toArray.size := by rw [rv.length, List.size_toArray]
    have n2 : vs.length = jts.toArray.size := by rw [sv.length, List.size_toArray]
    exact wpAny_pyNext_zipD2_end (sepOf D) (Draws.tuple (prog := X.prog) (w := X.w) (A := X.A.in1) (I.ok.hd hc) i1 a D.l1i1 its.toArray) (Draws.list (prog := X.prog) (w := X.w) (A := X.A.in1) (I.ok.hd hc) i2 b D.l2i2 jts.toArray) g1 g2 g3 ⟨g4, p⟩ ⟨g5, q.isList⟩ (by rw [← n1]; exact le1) (by rw [← n2]; exact le2) (by rw [← n1, ← n2]; exact fin) fun h1 tk hk => ⟨rfl, I.turnedL (t' := tk) (ch := [z, TI, TO, i1, i2]) (fun c o n e =>
      hk c o (fun m => n (by simp [m])) (fun m => n (by simp [m])) (fun m => n (by simp [m])) (fun m => n (by simp [m])) e) hf⟩
  self := fun A i s Q E st h => wpAny_pyIter_zip
      st.1 h
def iZipTL (K : PySem.W.Frag) (ta : TA) : TI := fun σ H R => ta σ H fun vs H1 => ∃ a b us ws, vs = [.ref a, .ref b] ∧ SqT K H1 a us ∧ SqL K H1 b ws ∧ R (ItB K a b) H1
theorem fresh5 {X : Cx} {pins : List (Addr × Obj)} {σ : L2.St} {H : Hp} {s : Shared} (I : Inv X pins σ H s) : ∀ c, c ∈ [s.heap.objs.size + 4, s.heap.objs.size + 2, s.heap.objs.size + 3, s.heap.objs.size, s.heap.objs.size + 1] → FpOk X pins H c := fun c hc => by
  have le : s.heap.objs.size ≤ c := by rcases five.mp hc with m | m | m | m | m <;> rw [m] <;> first | exact Nat.le_add_right _ _ | exact Nat.le_refl _
  exact I.fpOk le (I.hok.fresh le)
theorem pi_zipTL {X : Cx} {x y : Expr} {ta : TA} {p pos tp : Pos} {els : List Expr} {kx : Nat} (hg : Gl X "zip") (hm : X.mg "zip" = none) (ha : PA X [x, y] ta)
    (hs : starEach [x, y] X.env = (false, eval x X.env) :: starEach [y] X.env := by rfl) (hpl : (backTo pos (starEach [y] X.env)).any (·.1) = false := by rfl) : PI X (.Tuple els kx tp) (.Call (.Name "zip" p) [x, y] [] pos) (iZipTL X.K ta) := by
  refine ⟨fun pins s σ H R I h =>
      ?_⟩
  refine Call_ (ld_blt I hg hm PyProof.Rows.boot_zip (PyProof.Rows.callWith_type1 (thn (ha.run pos pins s σ H _ I h) fun zs s1 ⟨vs, H1, I1, r1, a, b, us, ws, ex, qu, qw, q⟩ => ?_) hs hpl))
  subst ex
  cases r1 with
  | cons r rr =>
    cases rr with
    | cons r' rr =>
      cases rr
      cases r
      cases r'
      obtain ⟨its, rv, p1, _⟩ := I1.tuple qu
      obtain ⟨jts, sv, p2, _⟩ := I1.list qw
      obtain ⟨o1, ho1, _⟩ := id p1
      refine zip_begins2 (begins_tuple a its.toArray) (begins_list b jts.toArray) p1 p2.isList fun h' hz hTI hTO h1 h2 hsz hk => wpAny_pyIter_zip hz ?_
      have I2 : Inv X pins σ H1 { s1 with heap := h' } := I1.kept (t' := s1.toks)
          hk
      exact ⟨s1.heap.objs.size + 4, [s1.heap.objs.size + 4, s1.heap.objs.size + 2, s1.heap.objs.size + 3, s1.heap.objs.size, s1.heap.objs.size + 1], _, _, H1, rfl, I2, turnB (PySem.W.ktu_apart s1.heap.objs.size a b (Heap.lt_size ho1) p2.lt), ⟨hz, hTI, ⟨_, _, hTO⟩, ⟨_, h1, rfl, rfl⟩, ⟨_, h2, rfl, rfl⟩⟩, fresh5 I1, q⟩
end Dl
set_option Elab.async false
set_option linter.all false
set_option maxRecDepth 100000
set_option maxHeartbeats 4200000
/-! enumerate of a zip of two lists: the zip's own tuple is held while the next one is drawn. -/
namespace Dl
open PySem PySem.Spec PyProof.Rows L2 StX
abbrev ZO (h : Heap) (z TI TO : Addr) (f0 f1 : Value) : Prop := h.get? z = some { cls := .type "zip", dict := none, data := .fields #[f0, f1, .bool false, .ref TI, .ref TO], slots := #[] }
def okF (f0 : Value) : Prop := f0 = .none ∨ ∃ n : Nat, f0 = rawInt n
/-- a zip between two draws -/
def ZS (h : Heap) (z TI TO : Addr) : Prop := ∃ f0 f1, okF f0 ∧ ZO h z TI TO f0 f1
section
variable {pr : Program} {w : World} {A : Around} {E : Value → Shared → Prop} {s : Shared} {z TI TO i1 i2 : Addr}
abbrev nx := @wpAny_bind
/-- all but the zip, its tuple and the two walkers stay -/
abbrev Rest (z TO i1 i2 : Addr) (h h' : Heap) : Prop := ∀ c o, c ≠ z → c ≠ TO → c ≠ i1 → c ≠ i2 → h.get? c = some o → h'.get? c = some o
theorem wp_alive {a : Addr} {Q : Option Obj → Shared → Prop} (h : Q (s.heap.get? a) s) : wpAny (model pr w) A (loadIfAlive a) Q E s := fun Γ p _ => h
theorem own_any {f0 f1 : Value} {Q : Bool → Shared → Prop} (ok : okF f0) (hZ : ZO s.heap z TI TO f0 f1) (q : ∀ b g1 h', ZO h' z TI TO f0 g1 → Heap.SameBut z s.heap h' → Q b { s with heap := h' }) :
    wpAny (model pr w) A (Builtin.SmallTypes.ownedTupleIsFree (.ref z)) Q E s := by
  have same : Heap.SameBut z s.heap s.heap := ⟨rfl, fun _ _ => rfl⟩
  unfold
      Builtin.SmallTypes.ownedTupleIsFree
  refine nx (wpAny_field hZ rfl (x := f0) rfl ?_)
  rcases ok with rfl | ⟨n, rfl⟩
  · exact wpAny_pure (q true f1 _ hZ same)
  · change wpAny _ _ (loadIfAlive _ >>= _) _ _ _
    refine nx (wp_alive ?_)
    cases s.heap.get? ((n : Int)).toNat with
    | none => exact wpAny_pure (q true f1 _ hZ same)
    | some o =>
      change wpAny _ _ (field (.ref z) 1 >>= _) _ _ _
      refine nx (wpAny_field hZ rfl (x := f1) rfl ?_)
      cases e : (f1 != Value.bool true) with
      | true =>
        simp only [if_true]
        refine nx (wpAny_setField_rec hZ (by simp) fun h' hz' hs' => wpAny_pure ?_)
        exact q false _ _ hz' hs'
      | false =>
        simp only [if_false, Bool.false_eq_true]
        exact wpAny_pure (q false f1 _ hZ same)
theorem ZO.ext {h h' : Heap} {f0 f1 : Value} {a : Addr} (hZ : ZO h z TI TO f0 f1) (s : Heap.SameBut a h h') (n : z ≠ a) : ZO h' z TI TO f0 f1 := s.extBut _ _ n hZ
theorem zip_any {l1 l2 : Addr} {k1 k2 : Nat} {xs ys : Array Value} {x y : Value} {Q : Value → Shared → Prop} (D : ZipApart z TI TO i1 i2 l1 l2)
    (hZ : ZS s.heap z TI TO) (g2 : IsPair s.heap TI (.ref i1) (.ref i2)) (g3 : ∃ a b, IsPair s.heap TO a b) (g4 : s.heap.IsListIter i1 l1 k1) (g5 : s.heap.IsListIter i2 l2 k2) (p1 : s.heap.IsList l1 xs) (p2 : s.heap.IsList l2 ys) (hx : xs[k1]? = some x) (hy : ys[k2]? = some y)
    (hQ : ∀ h', ZS h' z TI TO → (∃ a b, IsPair h' TO a b) → h'.IsListIter i1 l1 (k1 + 1) → h'.IsListIter i2 l2 (k2 + 1) → IsPair h' s.heap.objs.size x y → h'.objs.size = s.heap.objs.size + 1 →
      Rest z TO i1 i2 s.heap h' → Q (.ref s.heap.objs.size) { s with heap := h' }) :
    wpAny (model pr w) A (Builtin.«zip.__next__» ⟨[.ref z], []⟩) (fun r s' => ∃ v, r = .done (.ret v) ∧ Q v s') E s := by
  obtain ⟨f0, f1, ok, hZ⟩ := hZ
  obtain ⟨a, b, g3⟩ := g3
  change wpAny _ _ (field (.ref z) 2 >>= _) _ _ _
  refine nx (wpAny_field hZ rfl (x := .bool false) rfl ?_)
  change wpAny _ _ (field (.ref z) 3 >>= _) _ _ _
  refine nx (wpAny_field hZ rfl (x := .ref TI) rfl ?_)
  refine nx (wpAny_seqItems g2 rfl ?_)
  change wpAny _ _ (Builtin.SmallTypes.ownedTupleIsFree (.ref z) >>= _) _ _ _
  refine nx (own_any ok hZ fun fr e1 h0 z0 s0 => ?_)
  have t0 : IsPair h0 TO a b := s0.extBut _ _ D.TOz g3
  have j1 : h0.IsListIter i1 l1 k1 := g4.extBut s0.extBut D.i1z
  have j2 : h0.IsListIter i2 l2 k2 := g5.extBut s0.extBut D.i2z
  have q1 : h0.IsList l1 xs := p1.extBut s0.extBut D.l1z
  have q2 : h0.IsList l2 ys := p2.extBut s0.extBut D.l2z
  cases fr with
  | true =>
    simp only [if_true]
    refine nx (wpAny_rule ?_)
    refine nx (wpAny_field z0 rfl (x := .ref TO) rfl ?_)
    refine nx (wpAny_setField_rec z0 (by simp) fun ha za sa => ?_)
    replace za : ZO ha z TI TO .ellipsis e1 := za
    refine nx ?_
    simp only [List.forIn_nil, List.forIn_cons, List.zipIdx_nil, List.zipIdx_cons]
    refine nx (nx (wpAny_onRaise ?_))
    change wpAny _ _ (Builtin.SmallTypes.nextOf (.ref i1) >>= _) _ _ _
    refine nx (wpAny_nextOf_list_item (j1.extBut sa.extBut D.i1z) (q1.extBut sa.extBut D.l1z) hx fun hb jb sb => wpAny_pure ?_)
    have tb : IsPair hb TO a b := sb.extBut _ _ D.TOi1 (sa.extBut _ _ D.TOz t0)
    refine nx (wpAny_seqItems tb rfl ?_)
    refine nx (wpAny_updateSeq_pair tb fun hc tc sc => ?_)
    replace tc : IsPair hc TO x b := tc
    refine nx (wpAny_letGo (wpAny_pure ?_))
    refine nx (nx (wpAny_onRaise ?_))
    change wpAny _ _ (Builtin.SmallTypes.nextOf (.ref i2) >>= _) _ _ _
    refine nx (wpAny_nextOf_list_item (((j2.extBut sa.extBut D.i2z).extBut sb.extBut D.i12.symm).extBut sc.extBut D.TOi2.symm) (((q2.extBut sa.extBut D.l2z).extBut sb.extBut D.l2i1).extBut sc.extBut D.l2TO) hy fun hd jd sd => wpAny_pure ?_)
    have td : IsPair hd TO x b := sd.extBut _ _ D.TOi2 tc
    refine nx (wpAny_seqItems td rfl ?_)
    refine nx (wpAny_updateSeq_pair td fun he te se => ?_)
    replace te : IsPair he TO x y := te
    refine nx (wpAny_letGo (wpAny_pure (wpAny_pure ?_)))
    refine nx (wpAny_seqItems te rfl ?_)
    refine nx (wpAny_newTuple ?_)
    have sz : he.objs.size = s.heap.objs.size := by rw [se.1, sd.1, sc.1, sb.1, sa.1, s0.1]
    have ze : ZO he z TI TO .ellipsis e1 := se.extBut _ _ D.TOz.symm (sd.extBut _ _ D.i2z.symm (sc.extBut _ _ D.TOz.symm (sb.extBut _ _ D.i1z.symm za)))
    have zlt : z < he.objs.size := Heap.lt_size ze
    change wpAny _ _ (Builtin.SmallTypes.ownedTupleHandOut (.ref z) (.ref he.objs.size) >>= _) _ _ _
    refine nx ?_
    unfold
        Builtin.SmallTypes.ownedTupleHandOut
    have zf : ZO (he.push { cls := .type "tuple", data := .seq #[x, y] }) z TI TO .ellipsis e1 := Heap.get?_push_of_some _ ze
    refine nx (wpAny_setField_rec zf (by simp) fun hg zg sg => ?_)
    replace zg : ZO hg z TI TO (rawInt he.objs.size) e1 := zg
    refine wpAny_setField_rec zg (by simp) fun hh zh sh => ?_
    replace zh : ZO hh z TI TO (rawInt he.objs.size) (.bool false) := zh
    have up : ∀ c o, c ≠ z → he.get? c = some o → hh.get? c = some o := fun c o m e => sh.extBut _ _ m (sg.extBut _ _ m (Heap.get?_push_of_some _ e))
    have th : IsPair hh he.objs.size x y := sh.extBut _ _ (Nat.ne_of_gt zlt) (sg.extBut _ _ (Nat.ne_of_gt zlt) (Heap.get?_push_size _ rfl))
    have nh : hh.objs.size = he.objs.size + 1 := by rw [sh.1, sg.1, Heap.size_push]
    refine wpAny_pure ⟨_, rfl,
        ?_⟩
    show Q (.ref he.objs.size) _
    rw [sz] at th nh ⊢
    refine hQ hh ⟨_, _, .inr ⟨_, rfl⟩, zh⟩ ⟨x, y, up _ _ D.TOz te⟩ ?_ ?_ th nh fun c o m1 m2 m3 m4 e => up c o m1 (se.extBut _ _ m2 (sd.extBut _ _ m4 (sc.extBut _ _ m2 (sb.extBut _ _ m3 (sa.extBut _ _ m1 (s0.extBut _ _ m1 e))))))
    · exact (((jb.extBut sc.extBut D.TOi1.symm).extBut sd.extBut D.i12).extBut se.extBut D.TOi1.symm).at fun o e => up _ o D.i1z e
    · exact (jd.extBut se.extBut D.TOi2.symm).at fun o e => up _ o D.i2z e
  | false =>
    simp only [if_false, Bool.false_eq_true]
    change wpAny _ _ (forIn (m := Sem) _ _ _ >>= _) _ _ _
    refine nx ?_
    simp only [List.forIn_toArray, List.forIn_nil, List.forIn_cons]
    refine nx (nx (wpAny_holding ?_))
    change wpAny _ _ (Builtin.SmallTypes.nextOf (.ref i1) >>= _) _ _ _
    refine nx (wpAny_nextOf_list_item j1 q1 hx fun hb jb sb => wpAny_pure (wpAny_pure ?_))
    refine nx (nx (wpAny_holding ?_))
    change wpAny _ _ (Builtin.SmallTypes.nextOf (.ref i2) >>= _) _ _ _
    refine nx (wpAny_nextOf_list_item (j2.extBut sb.extBut D.i12.symm) (q2.extBut sb.extBut D.l2i1) hy fun hd jd sd => wpAny_pure (wpAny_pure (wpAny_pure ?_)))
    refine nx (wpAny_newTuple (hsz := by show 2 ≤ sizeLine; decide) ?_)
    have sz : hd.objs.size = s.heap.objs.size := by rw [sd.1, sb.1, s0.1]
    have zd : ZO hd z TI TO f0 e1 := sd.extBut _ _ D.i2z.symm (sb.extBut _ _ D.i1z.symm z0)
    refine wpAny_pure ⟨_, rfl,
        ?_⟩
    show Q (.ref hd.objs.size) { s with heap := hd.push { cls := .type "tuple", data := .seq #[x, y] } }
    have th : IsPair (hd.push { cls := .type "tuple", data := .seq #[x, y] }) hd.objs.size x y := Heap.get?_push_size _ rfl
    have up : ∀ c o, hd.get? c = some o → (hd.push { cls := .type "tuple", data := .seq #[x, y] }).get? c = some o := fun c o e => Heap.get?_push_of_some _ e
    have nh : (hd.push { cls := .type "tuple", data := .seq #[x, y] }).objs.size = hd.objs.size + 1 := Heap.size_push ..
    generalize hd.push { cls := .type "tuple", data := .seq #[x, y] } = hh at *
    rw [sz] at th nh ⊢
    refine hQ hh ⟨_, _, ok, up _ _ zd⟩ ⟨a, b, up _ _ (sd.extBut _ _ D.TOi2 (sb.extBut _ _ D.TOi1 t0))⟩ ?_ ?_ th nh fun c o m1 m2 m3 m4 e => up c o (sd.extBut _ _ m4 (sb.extBut _ _ m3 (s0.extBut _ _ m1 e)))
    · exact (jb.extBut sd.extBut D.i12).at fun o e => up _ o e
    · exact jd.at fun o e => up _ o e
theorem zip_fin {l1 l2 : Addr} {k1 k2 : Nat} {xs ys : Array Value} {Q : Fin → Shared → Prop} (hn : A.handled = none) (D : ZipApart z TI TO i1 i2 l1 l2)
    (hZ : ZS s.heap z TI TO) (g2 : IsPair s.heap TI (.ref i1) (.ref i2)) (g3 : ∃ a b, IsPair s.heap TO a b) (g4 : s.heap.IsListIter i1 l1 k1) (g5 : s.heap.IsListIter i2 l2 k2) (p1 : s.heap.IsList l1 xs) (p2 : s.heap.IsList l2 ys) (last : xs[k1]? = none ∨ ys[k2]? = none)
    (hE : ∀ h' e, Rest z TO i1 i2 s.heap h' → (∃ o, h'.get? e = some o ∧ o.cls = .type "StopIteration") → E (.ref e) { s with heap := h' }) :
    wpAny (model pr w) A (Builtin.«zip.__next__» ⟨[.ref z], []⟩) Q E s := by
  obtain ⟨f0, f1, ok, hZ⟩ := hZ
  obtain ⟨a, b, g3⟩ := g3
  change wpAny _ _ (field (.ref z) 2 >>= _) _ _ _
  refine nx (wpAny_field hZ rfl (x := .bool false) rfl ?_)
  change wpAny _ _ (field (.ref z) 3 >>= _) _ _ _
  refine nx (wpAny_field hZ rfl (x := .ref TI) rfl ?_)
  refine nx (wpAny_seqItems g2 rfl ?_)
  change wpAny _ _ (Builtin.SmallTypes.ownedTupleIsFree (.ref z) >>= _) _ _ _
  refine nx (own_any ok hZ fun fr e1 h0 z0 s0 => ?_)
  have t0 : IsPair h0 TO a b := s0.extBut _ _ D.TOz g3
  have j1 : h0.IsListIter i1 l1 k1 := g4.extBut s0.extBut D.i1z
  have j2 : h0.IsListIter i2 l2 k2 := g5.extBut s0.extBut D.i2z
  have q1 : h0.IsList l1 xs := p1.extBut s0.extBut D.l1z
  have q2 : h0.IsList l2 ys := p2.extBut s0.extBut D.l2z
  cases fr with
  | true =>
    simp only [if_true]
    refine nx (wpAny_rule ?_)
    refine nx (wpAny_field z0 rfl (x := .ref TO) rfl ?_)
    refine nx (wpAny_setField_rec z0 (by simp) fun ha za sa => ?_)
    replace za : ZO ha z TI TO .ellipsis e1 := za
    refine nx ?_
    simp only [List.forIn_nil, List.forIn_cons, List.zipIdx_nil, List.zipIdx_cons]
    refine nx (nx (wpAny_onRaise ?_))
    change wpAny _ _ (Builtin.SmallTypes.nextOf (.ref i1) >>= _) _ _ _
    cases hx : xs[k1]? with
    | none =>
      refine nx (wpAny_nextOf_list_end hn (j1.extBut sa.extBut D.i1z) (q1.extBut sa.extBut D.l1z) hx fun hb e sb ⟨oe, he, ce⟩ => ?_)
      have zb : ZO hb z TI TO .ellipsis e1 := sb _ _ D.i1z.symm za
      have ne : e ≠ z := fun m => by subst m; rw [zb] at he; cases he; simp at ce
      exact wpAny_setField_rec zb (by simp) fun hc _ sc => hE hc e (fun c o m1 m2 m3 m4 g => sc.extBut _ _ m1 (sb _ _ m3 (sa.extBut _ _ m1 (s0.extBut _ _ m1 g)))) ⟨oe, sc.extBut _ _ ne he, ce⟩
    | some x =>
      have hy : ys[k2]? = none := by rcases last with m | m; rw [hx] at m; cases m; exact m
      refine nx (wpAny_nextOf_list_item (j1.extBut sa.extBut D.i1z) (q1.extBut sa.extBut D.l1z) hx fun hb jb sb => wpAny_pure ?_)
      have tb : IsPair hb TO a b := sb.extBut _ _ D.TOi1 (sa.extBut _ _ D.TOz t0)
      refine nx (wpAny_seqItems tb rfl ?_)
      refine nx (wpAny_updateSeq_pair tb fun hc tc sc => ?_)
      refine nx (wpAny_letGo (wpAny_pure ?_))
      refine nx (nx (wpAny_onRaise ?_))
      change wpAny _ _ (Builtin.SmallTypes.nextOf (.ref i2) >>= _) _ _ _
      refine nx (wpAny_nextOf_list_end hn (((j2.extBut sa.extBut D.i2z).extBut sb.extBut D.i12.symm).extBut sc.extBut D.TOi2.symm) (((q2.extBut sa.extBut D.l2z).extBut sb.extBut D.l2i1).extBut sc.extBut D.l2TO) hy fun hd e sd ⟨oe, he, ce⟩ => ?_)
      have zd : ZO hd z TI TO .ellipsis e1 := sd _ _ D.i2z.symm (sc.extBut _ _ D.TOz.symm (sb.extBut _ _ D.i1z.symm za))
      have ne : e ≠ z := fun m => by subst m; rw [zd] at he; cases he; simp at ce
      exact wpAny_setField_rec zd (by simp) fun hf _ sf => hE hf e (fun c o m1 m2 m3 m4 g => sf.extBut _ _ m1 (sd _ _ m4 (sc.extBut _ _ m2 (sb.extBut _ _ m3 (sa.extBut _ _ m1 (s0.extBut _ _ m1 g)))))) ⟨oe, sf.extBut _ _ ne he, ce⟩
  | false =>
    simp only [if_false, Bool.false_eq_true]
    change wpAny _ _ (forIn (m := Sem) _ _ _ >>= _) _ _ _
    refine nx ?_
    simp only [List.forIn_toArray, List.forIn_nil, List.forIn_cons]
    refine nx (nx (wpAny_holding ?_))
    change wpAny _ _ (Builtin.SmallTypes.nextOf (.ref i1) >>= _) _ _ _
    cases hx : xs[k1]? with
    | none => exact wpAny_bind (wpAny_nextOf_list_end hn j1 q1 hx fun hb e sb he => hE hb e (fun c o m1 m2 m3 m4 g => sb _ _ m3 (s0.extBut _ _ m1 g)) he)
    | some x =>
      have hy : ys[k2]? = none := by rcases last with m | m; rw [hx] at m; cases m; exact m
      refine nx (wpAny_nextOf_list_item j1 q1 hx fun hb jb sb => wpAny_pure (wpAny_pure ?_))
      refine nx (nx (wpAny_holding ?_))
      change wpAny _ _ (Builtin.SmallTypes.nextOf (.ref i2) >>= _) _ _ _
      exact wpAny_bind (wpAny_nextOf_list_end hn (j2.extBut sb.extBut D.i12.symm) (q2.extBut sb.extBut D.l2i1) hy fun hd e sd he => hE hd e (fun c o m1 m2 m3 m4 g => sd _ _ m4 (sb.extBut _ _ m3 (s0.extBut _ _ m1 g))) he)
theorem ZS.type {s : Shared} (h : ZS s.heap z TI TO) : s.TypeIs (.ref z) "zip" := by
  obtain ⟨_, _, _, h⟩ := h
  exact ⟨_, h, rfl⟩
theorem enz_item {e : Addr} {l1 l2 : Addr} {k : Nat} {xs ys : Array Value} {x y old : Value} {Q : Option Value → Shared → Prop} (D : ZipApart z TI TO i1 i2 l1 l2) (n1 : e ≠ z) (n2 : e ≠ TI) (n3 : e ≠ TO) (n4 : e ≠ i1) (n5 : e ≠ i2)
    (g1 : IsEnum s.heap e z (k : Int) old) (hZ : ZS s.heap z TI TO) (g2 : IsPair s.heap TI (.ref i1) (.ref i2)) (g3 : ∃ a b, IsPair s.heap TO a b) (g4 : s.heap.IsListIter i1 l1 k) (g5 : s.heap.IsListIter i2 l2 k) (p1 : s.heap.IsList l1 xs) (p2 : s.heap.IsList l2 ys) (hx : xs[k]? = some x) (hy : ys[k]? = some y)
    (hQ : ∀ h1 h' tk, IsPair h1 s.heap.objs.size x y → h1.objs.size = s.heap.objs.size + 1 → Rest z TO i1 i2 s.heap h1 →
      IsEnumOut h' e z ((k : Int) + 1) (.ref s.heap.objs.size) (s.heap.objs.size + 1) → ZS h' z TI TO → (∃ a b, IsPair h' TO a b) → h'.IsListIter i1 l1 (k + 1) → h'.IsListIter i2 l2 (k + 1) →
      IsPair h' (s.heap.objs.size + 1) (.int (k : Int) tk) (.ref s.heap.objs.size) → (∀ c o, c ≠ e → h1.get? c = some o → h'.get? c = some o) → Q (some (.ref (s.heap.objs.size + 1))) { s with heap := h', toks := tk + 1 }) :
    wpAny (model pr w) A (pyNext (.ref e)) Q E s := by
  have hT : s.TypeIs (.ref e) "enumerate" := ⟨_, g1, rfl⟩
  have el : e < s.heap.objs.size := Heap.lt_size g1
  unfold pyNext
  refine nx (wpAny_attempt (wpAny_callSpecial?_slot (name := Str.ofString "__next__") hT F.slot_enumerate_next (wpAny_call_entry F.slot_enumerate_next hT F.entry_enumerate_next ?_ (F.args_enumerate_next_1 _))))
  change wpAny _ _ (field (.ref e) 2 >>= _) _ _ _
  refine nx (wpAny_field g1 rfl (x := .ref z) rfl ?_)
  unfold
      Builtin.SmallTypes.nextOf
  refine nx (nx (wpAny_callSpecial?_slot (name := Str.ofString "__next__") hZ.type F.slot_zip_next (wpAny_call_entry F.slot_zip_next hZ.type F.entry_zip_next (zip_any D hZ g2 g3 g4 g5 p1 p2 hx hy fun h1 z1 t1 j1 j2 tt ss kk => wpAny_pure ?_) (F.args_zip_next_1 _))))
  obtain ⟨hp1, gg, dd, tk1, os1⟩ := s
  have e1 : IsEnum h1 e z (k : Int) old := kk _ _ n1 n3 n4 n5 g1
  show wpAny _ _ (field (.ref e) 3 >>= _) _ _ ⟨h1, gg, dd, tk1, os1⟩
  refine nx (wpAny_field e1 rfl (x := rawInt k) rfl ?_)
  show wpAny _ _ (field (.ref e) 4 >>= _) _ _ ⟨h1, gg, dd, tk1, os1⟩
  refine nx (wpAny_field e1 rfl (x := .none) rfl ?_)
  show wpAny _ _ (mkInt k >>= _) _ _ ⟨h1, gg, dd, tk1, os1⟩
  refine nx (wpAny_mkInt ?_)
  show wpAny _ _ (setField (.ref e) 3 (rawInt ((k : Int) + 1)) >>= _) _ _ ⟨h1, gg, dd, tk1 + 1, os1⟩
  refine nx (wpAny_setField_rec e1 (by simp) fun h2 e2 s2 => ?_)
  replace s2 : Heap.SameBut e h1 h2 := s2
  replace e2 : IsEnum h2 e z ((k : Int) + 1) old := e2
  show wpAny _ _ (setField (.ref e) 4 .none >>= _) _ _ ⟨h2, gg, dd, tk1 + 1, os1⟩
  refine nx (wpAny_setField_rec e2 (by simp) fun h3 e3 s3 => ?_)
  replace s3 : Heap.SameBut e h2 h3 := s3
  replace e3 : IsEnum h3 e z ((k : Int) + 1) old := e3
  show wpAny _ _ (newTuple [.int k tk1, .ref hp1.objs.size] >>= _) _ _ ⟨h3, gg, dd, tk1 + 1, os1⟩
  refine nx (wpAny_newTuple (hsz := by show 2 ≤ sizeLine; decide) ?_)
  have e4 : IsEnum (h3.push { cls := .type "tuple", data := .seq #[.int k tk1, .ref hp1.objs.size] }) e z ((k : Int) + 1) old := Heap.get?_push_of_some _ e3
  have sz3 : h3.objs.size = hp1.objs.size + 1 := by rw [s3.1, s2.1, ss]
  have t4 : (h3.push { cls := .type "tuple", data := .seq #[.int k tk1, .ref hp1.objs.size] }).get? (hp1.objs.size + 1) = some { cls := .type "tuple", data := .seq #[.int k tk1, .ref hp1.objs.size] } := by rw [← sz3]; exact Heap.get?_push_size _ rfl
  have k4 : ∀ c o, c ≠ e → h1.get? c = some o → (h3.push { cls := .type "tuple", data := .seq #[.int k tk1, .ref hp1.objs.size] }).get? c = some o := fun c o m g => Heap.get?_push_of_some _ (s3.extBut _ _ m (s2.extBut _ _ m g))
  show wpAny _ _ (Builtin.SmallTypes.ownedTupleIsFree (.ref e) >>= _) _ _ ⟨h3.push { cls := .type "tuple", data := .seq #[.int k tk1, .ref hp1.objs.size] }, gg, dd, tk1 + 1, os1⟩
  generalize h3.push { cls := .type "tuple", data := .seq #[.int k tk1, .ref hp1.objs.size] } = h4 at e4 t4 k4 ⊢
  rw [sz3]
  have ne1 : hp1.objs.size + 1 ≠ e := Nat.ne_of_gt (Nat.lt_succ_of_lt el)
  unfold
      Builtin.SmallTypes.ownedTupleIsFree
  refine nx (nx (wpAny_field e4 rfl (x := .none) rfl (wpAny_pure ?_)))
  simp only [if_true]
  refine nx (wpAny_rule ?_)
  refine nx (wpAny_field e4 rfl (x := old) rfl ?_)
  refine nx (wpAny_setField_rec e4 (by simp) fun h5 e5 s5 => ?_)
  replace s5 : Heap.SameBut e h4 h5 := s5
  replace e5 : IsEnum h5 e z ((k : Int) + 1) (.ref hp1.objs.size) := e5
  show wpAny _ _ (Builtin.SmallTypes.ownedTupleHandOut (.ref e) (.ref (hp1.objs.size + 1)) >>= _) _ _ ⟨h5, gg, dd, tk1 + 1, os1⟩
  unfold
      Builtin.SmallTypes.ownedTupleHandOut
  refine nx (nx (wpAny_setField_rec e5 (by simp) fun h6 e6 s6 => ?_))
  replace s6 : Heap.SameBut e h5 h6 := s6
  replace e6 : IsEnumOut h6 e z ((k : Int) + 1) (.ref hp1.objs.size) (hp1.objs.size + 1) := e6
  refine wpAny_setField_rec e6 (by simp) fun h7 e7 s7 => ?_
  replace s7 : Heap.SameBut e h6 h7 := s7
  replace e7 : IsEnumOut h7 e z ((k : Int) + 1) (.ref hp1.objs.size) (hp1.objs.size + 1) := e7
  have up : ∀ c o, c ≠ e → h1.get? c = some o → h7.get? c = some o := fun c o m g => s7.extBut _ _ m (s6.extBut _ _ m (s5.extBut _ _ m (k4 _ _ m g)))
  refine nx (wpAny_letGo (wpAny_pure ⟨_, rfl, wpAny_pure ?_⟩))
  refine hQ h1 h7 tk1 tt ss kk e7 ?_ ?_ (j1.at fun o g => up _ o (Ne.symm n4) g) (j2.at fun o g => up _ o (Ne.symm n5) g) ?_ up
  · obtain ⟨a0, a1, a2, a3⟩ := z1
    exact ⟨a0, a1, a2, up _ _ (Ne.symm n1) a3⟩
  · obtain ⟨a0, a1, a2⟩ := t1
    exact ⟨a0, a1, up _ _ (Ne.symm n3) a2⟩
  · exact s7.extBut _ _ ne1 (s6.extBut _ _ ne1 (s5.extBut _ _ ne1 t4))
theorem enz_end {e : Addr} {l1 l2 : Addr} {k : Nat} {xs ys : Array Value} {old : Value} {Q : Option Value → Shared → Prop} (hn : A.handled = none) (D : ZipApart z TI TO i1 i2 l1 l2)
    (g1 : IsEnum s.heap e z (k : Int) old) (hZ : ZS s.heap z TI TO) (g2 : IsPair s.heap TI (.ref i1) (.ref i2)) (g3 : ∃ a b, IsPair s.heap TO a b) (g4 : s.heap.IsListIter i1 l1 k) (g5 : s.heap.IsListIter i2 l2 k) (p1 : s.heap.IsList l1 xs) (p2 : s.heap.IsList l2 ys) (last : xs[k]? = none ∨ ys[k]? = none)
    (hQ : ∀ h', Rest z TO i1 i2 s.heap h' → Q none { s with heap := h' }) : wpAny (model pr w) A (pyNext (.ref e)) Q E s := by
  have hT : s.TypeIs (.ref e) "enumerate" := ⟨_, g1, rfl⟩
  unfold pyNext
  refine nx (wpAny_attempt (wpAny_callSpecial?_slot (name := Str.ofString "__next__") hT F.slot_enumerate_next (wpAny_call_entry F.slot_enumerate_next hT F.entry_enumerate_next ?_ (F.args_enumerate_next_1 _))))
  change wpAny _ _ (field (.ref e) 2 >>= _) _ _ _
  refine nx (wpAny_field g1 rfl (x := .ref z) rfl ?_)
  unfold
      Builtin.SmallTypes.nextOf
  refine nx (nx (wpAny_callSpecial?_slot (name := Str.ofString "__next__") hZ.type F.slot_zip_next (wpAny_call_entry F.slot_zip_next hZ.type F.entry_zip_next (zip_fin hn D hZ g2 g3 g4 g5 p1 p2 last fun h1 x kk he => ?_) (F.args_zip_next_1 _))))
  obtain ⟨o, ho, hc⟩ := he
  refine nx (wpAny_isInstance (T := "StopIteration") (b := true) ⟨o, ho, hc⟩ isSubtype_stop ?_)
  exact wpAny_pure (hQ _ kk)
end
/-! ### enumerate(zip(list, list)) -/
def ItC (K : PySem.W.Frag) (a b : Addr) : It :=
  ⟨fun i H => ∃ (us vs : List V) (u v : V), SqL K H a us ∧ SqL K H b vs ∧ us[i]? = some u ∧ vs[i]? = some v,
    fun i H r H' => ∃ N N' u v, r = .ref N' ∧ H N = none ∧ H N' = none ∧ N ≠ N' ∧ H' = upd (upd H N (.tup [u, v])) N' (.tup [.int (i : Nat), .ref N]) ∧ (∀ us, SqL K H a us → us[i]? = some u) ∧ ∀ vs, SqL K H b vs → vs[i]? = some v,
    fun i H => ∃ us vs : List V, SqL K H a us ∧ SqL K H b vs ∧ (us.length ≤ i ∨ vs.length ≤ i)⟩
structure Six (e z TI TO i1 i2 : Addr) : Prop where
  ez : e ≠ z
  eTI : e ≠ TI
  eTO : e ≠ TO
  e1 : e ≠ i1
  e2 : e ≠ i2
theorem six {b u v w x y z : Addr} : b ∈ [u, v, w, x, y, z] ↔ b = u ∨ b = v ∨ b = w ∨ b = x ∨ b = y ∨ b = z := by simp
theorem turnC {P : Program} {w : World} {K : PySem.W.Frag} {els : List Expr} {kx : Nat} {tp : Pos} {a b e z TI TO i1 i2 : Addr} (D : ZipApart z TI TO i1 i2 a b) (S : Six e z TI TO i1 i2) :
    Turn P w K (.Tuple els kx tp) (ItC K a b) [e, z, TI, TO, i1, i2] e (fun i hp => (∃ old, IsEnum hp e z ((i : Nat) : Int) old) ∧ ZS hp z TI TO ∧ IsPair hp TI (.ref i1) (.ref i2) ∧ (∃ u v, IsPair hp TO u v) ∧ hp.IsListIter i1 a i ∧ hp.IsListIter i2 b i) where
  mem := by simp
  obj := fun i hp st c hc => by
    obtain ⟨⟨old, g0⟩, ⟨f0, f1, _, g1⟩, g2, ⟨u, v, g3⟩, ⟨o1, e1, _, d1⟩, ⟨o2, e2, _, d2⟩⟩ := st
    rcases six.mp hc with q | q | q | q | q | q <;> subst q
    · exact ⟨_, g0, fun v q => by cases q⟩
    · exact ⟨_, g1, fun v q => by cases q⟩
    · exact ⟨_, g2, fun v q => by cases q⟩
    · exact ⟨_, g3, fun v q => by cases q⟩
    · exact ⟨o1, e1, fun v q => by rw [d1] at q; cases q⟩
    · exact ⟨o2, e2, fun v q => by rw [d2] at q; cases q⟩
  keep := fun i hp hp' st k => by
    obtain ⟨⟨old, g0⟩, ⟨f0, f1, ok, g1⟩, g2, ⟨u, v, g3⟩, g4, g5⟩ := st
    exact ⟨⟨old, k e (by simp) _ g0⟩, ⟨f0, f1, ok, k z (by simp) _ g1⟩, k TI (by simp) _ g2, ⟨u, v, k TO (by simp) _ g3⟩, g4.at fun o q => k i1 (by simp) o q, g5.at fun o q => k i2 (by simp) o q⟩
  item := by
    intro X hP hw hK hc i pins s σ H E I hf st
        hg
    subst hP hw hK
    obtain ⟨⟨old, g0⟩, g1, g2, ⟨u0, v0, g3⟩, g4, g5⟩ := st
    obtain ⟨us, vs, u, v, qu, qv, hu, hv⟩ := hg
    obtain ⟨its, rv, p, _⟩ := I.list qu
    obtain ⟨jts, sv, q, _⟩ := I.list qv
    obtain ⟨x, hx, rx⟩ := rv.get hu
    obtain ⟨y, hy, ry⟩ := sv.get hv
    have lt : ∀ c, c ∈ [e, z, TI, TO, i1, i2] → c < s.heap.objs.size := fun c hcm => by
      obtain ⟨f0, f1, _, g1⟩ := g1
      rcases six.mp hcm with m | m | m | m | m | m <;> rw [m]
      · exact Heap.lt_size g0
      · exact Heap.lt_size g1
      · exact Heap.lt_size g2
      · exact Heap.lt_size g3
      · obtain ⟨_, e1, _⟩ := g4; exact Heap.lt_size e1
      · obtain ⟨_, e2, _⟩ := g5; exact Heap.lt_size e2
    have el : e < s.heap.objs.size := lt e (by simp)
    refine enz_item D S.ez S.eTI S.eTO S.e1 S.e2 g0 g1 g2 ⟨_, _, g3⟩ g4 g5 p.isList q.isList (x := x) (y := y) (by simpa using hx) (by simpa using hy) fun h1 h2 tk tt ss kk e2 z2 t2 j1 j2 hN up => ?_
    refine ⟨_, rfl, wpAny_letOwnedTupleGo_enum (s := { s with heap := h2, toks := tk + 1 }) e2 fun h3 e3 sb => ?_⟩
    have new1 : ObjOk X.prog X.w (upd H s.heap.objs.size (.tup [u, v])) h1 s.heap.objs.size (.tup [u, v]) := ⟨by show 2 ≤ sizeLine; decide, [x, y], .cons rx (.cons ry .nil), ⟨_, tt, rfl, _, rfl⟩⟩
    have I1 : Inv X pins σ (upd H s.heap.objs.size (.tup [u, v])) { s with heap := h1, toks := tk } :=
      I.turnedNew (ch := [e, z, TI, TO, i1, i2]) (fun c o n g => kk c o (fun m => n (by simp [m])) (fun m => n (by simp [m])) (fun m => n (by simp [m])) (fun m => n (by simp [m])) g) hf (Nat.le_refl _) new1
    have hf1 : ∀ c, c ∈ [e, z, TI, TO, i1, i2] → FpOk X pins (upd H s.heap.objs.size (.tup [u, v])) c := fun c hcm => ⟨by rw [upd_ne (Nat.ne_of_lt (lt c hcm))]; exact (hf c hcm).1, (hf c hcm).2⟩
    have hN3 : h3.get? (s.heap.objs.size + 1) = some { cls := .type "tuple", data := .seq #[.int (i : Int) tk, .ref s.heap.objs.size] } := (sb.2 _ (Nat.ne_of_gt (Nat.lt_succ_of_lt el))).trans hN
    have new2 : ObjOk X.prog X.w (upd (upd H s.heap.objs.size (.tup [u, v])) (s.heap.objs.size + 1) (.tup [.int (i : Nat), .ref s.heap.objs.size])) h3 (s.heap.objs.size + 1) (.tup [.int (i : Nat), .ref s.heap.objs.size]) :=
      ⟨by show 2 ≤ sizeLine; decide, [.int (i : Int) tk, .ref s.heap.objs.size], .cons ⟨tk, rfl⟩ (.cons rfl .nil), ⟨_, hN3, rfl, _, rfl⟩⟩
    have I2 : Inv X pins σ (upd (upd H s.heap.objs.size (.tup [u, v])) (s.heap.objs.size + 1) (.tup [.int (i : Nat), .ref s.heap.objs.size])) { s with heap := h3, toks := tk + 1 } :=
      I1.turnedNew (t' := tk + 1) (ch := [e, z, TI, TO, i1, i2]) (fun c o n g => (sb.2 c (fun m => n (by simp [m]))).trans (up c o (fun m => n (by simp [m])) g)) hf1 (by show h1.objs.size ≤ _; rw [ss]; exact Nat.le_refl _) new2
    have hN1 : H (s.heap.objs.size + 1) = none := I.hok.fresh (Nat.le_succ _)
    refine ⟨.ref (s.heap.objs.size + 1), _, I2, rfl, ⟨s.heap.objs.size, s.heap.objs.size + 1, u, v, rfl, I.hok.fresh (Nat.le_refl _), hN1, Nat.ne_of_lt (Nat.lt_succ_self _), rfl, fun l hl => by rw [I.list_inj hl qu]; exact hu, fun l hl => by rw [I.list_inj hl qv]; exact hv⟩, ⟨⟨.ref s.heap.objs.size, ?_⟩, ?_, ?_, ?_, ?_, ?_⟩, fun c hcm => ?_⟩
    · have e1 : ((i + 1 : Nat) : Int) = (i : Int) + 1 := by
          omega
      rw [e1]; exact e3
    · obtain ⟨a0, a1, a2, a3⟩ := z2
      exact ⟨a0, a1, a2, (sb.2 _ (Ne.symm S.ez)).trans a3⟩
    · exact (sb.2 _ (Ne.symm S.eTI)).trans (up _ _ (Ne.symm S.eTI) (kk _ _ D.TIz D.TITO D.TIi1 D.TIi2 g2))
    · obtain ⟨a0, a1, a2⟩ := t2
      exact ⟨a0, a1, (sb.2 _ (Ne.symm S.eTO)).trans a2⟩
    · exact j1.at fun o g => (sb.2 _ (Ne.symm S.e1)).trans g
    · exact j2.at fun o g => (sb.2 _ (Ne.symm S.e2)).trans g
    · rw [upd_ne (Nat.ne_of_lt (Nat.lt_succ_of_lt (lt c hcm))), upd_ne (Nat.ne_of_lt (lt c hcm))]
      exact (hf c hcm).1
  done := by
    intro X hP hw hK hc i pins s σ H E I hf st
        hg
    subst hP hw hK
    obtain ⟨⟨old, g0⟩, g1, g2, g3, g4, g5⟩ := st
    obtain ⟨us, vs, qu, qv, last⟩ := hg
    obtain ⟨its, rv, p, _⟩ := I.list qu
    obtain ⟨jts, sv, q, _⟩ := I.list qv
    have n1 := rv.length
    have n2 := sv.length
    have fin : its.toArray[i]? = none ∨ jts.toArray[i]? = none := by
      rcases last with m | m
      · exact .inl (by simp; omega)
      · exact .inr (by simp; omega)
    exact enz_end (I.ok.hd hc) D g0 g1 g2 g3 g4 g5 p.isList q.isList fin fun h1 hk => ⟨rfl, I.turnedL (t' := s.toks) (ch := [e, z, TI, TO, i1, i2]) (fun c o n g =>
      hk c o (fun m => n (by simp [m])) (fun m => n (by simp [m])) (fun m => n (by simp [m])) (fun m => n (by simp [m])) g) hf⟩
  self := fun A i s Q E st h => let ⟨⟨_, g0⟩, _⟩ := st; wpAny_pyIter_enum g0 h
section
variable {pr : Program} {w : World} {A : Around} {E : Value → Shared → Prop} {s : Shared}
theorem call_enumZ {z TI TO : Addr} {Q : Value → Shared → Prop} (hz : IsZip s.heap z TI TO .none)
    (h : ∀ h', IsEnum h' s.heap.objs.size z 0 .none → h'.objs.size = s.heap.objs.size + 1 → (∀ b o, s.heap.get? b = some o → h'.get? b = some o) → Q (.ref s.heap.objs.size) { s with heap := h' }) :
    wpAny (model pr w) A (call (.type "enumerate") [.ref z]) Q E s := by
  refine callType_new F.called_enumerate (by decide) (F.typeCall_enumerate_1 _) (F.newCall_enumerate_1 _) (fun ob => F.args_object_init_2 ob _) F.entry_enumerate_new
    (new_enum (v := .ref z) (ix := fun _ => z) (G := fun hp => IsZip hp z TI TO .none) (mk := fun hp => hp) fun pr wd A E s Q g q => wpAny_pyIter_zip g q) ⟨hz, ?_⟩
  show _ ∧ _
  have he := Heap.get?_push_size s.heap (o := { cls := .type "enumerate", data := .fields #[.none, .bool false, .ref z, rawInt 0, .none, .none] }) rfl
  exact ⟨⟨_, he, rfl⟩, h _ he (Heap.size_push ..) fun b o x => Heap.get?_push_of_some _ x⟩
end
def iEnumZip (K : PySem.W.Frag) (ta : TA) : TI := fun σ H R => ta σ H fun vs H1 => ∃ a b us ws, vs = [.ref a, .ref b] ∧ SqL K H1 a us ∧ SqL K H1 b ws ∧ R (ItC K a b) H1
theorem pi_enumZip {X : Cx} {x y : Expr} {ta : TA} {p p' pos pos' tp : Pos} {els : List Expr} {kx : Nat} (hg : Gl X "enumerate") (hm : X.mg "enumerate" = none) (hg' : Gl X "zip") (hm' : X.mg "zip" = none) (ha : PA X [x, y] ta)
    (hs : starEach [x, y] X.env = (false, eval x X.env) :: starEach [y] X.env := by rfl) (hpl : (backTo pos' (starEach [y] X.env)).any (·.1) = false := by rfl)
    (ho : starEach [.Call (.Name "zip" p') [x, y] [] pos'] X.env = (false, eval (.Call (.Name "zip" p') [x, y] [] pos') X.env) :: starEach [] X.env := by rfl) : PI X (.Tuple els kx tp) (.Call (.Name "enumerate" p) [.Call (.Name "zip" p') [x, y] [] pos'] [] pos) (iEnumZip X.K ta) := by
  refine ⟨fun pins s σ H R I h =>
      ?_⟩
  refine Call_ (ld_blt I hg hm boot_enumerate (PyProof.Rows.callWith_type1 (args_cons ?_ ho) ho rfl))
  refine Call_ (ld_blt I hg' hm' PyProof.Rows.boot_zip (PyProof.Rows.callWith_type1 (thn (ha.run pos' pins s σ H _ I h) fun zs s1 ⟨vs, H1, I1, r1, a, b, us, ws, ex, qu, qw, q⟩ => ?_) hs hpl))
  subst ex
  cases r1 with
  | cons r rr =>
    cases rr with
    | cons r' rr =>
      cases rr
      cases r
      cases r'
      obtain ⟨its, rv, p1, _⟩ := I1.list qu
      obtain ⟨jts, sv, p2, _⟩ := I1.list qw
      refine zip_begins2 (begins_list a its.toArray) (begins_list b jts.toArray) p1.isList p2.isList fun h' hz hTI hTO h1 h2 hsz hk => args_nil (call_enumZ (s := { s1 with heap := h' }) hz fun h'' he hsz' hk' => wpAny_pyIter_enum he ?_)
      have I2 : Inv X pins σ H1 { s1 with heap := h'' } := I1.kept (t' := s1.toks) fun c o g => hk' c o (hk c o g)
      have lz : s1.heap.objs.size + 4 < h'.objs.size := by rw [hsz]; exact Nat.lt_succ_self _
      have big : h'.objs.size = s1.heap.objs.size + 5 := hsz
      have D := PySem.W.ktu_apart s1.heap.objs.size a b p1.lt p2.lt
      refine ⟨h'.objs.size, [h'.objs.size, s1.heap.objs.size + 4, s1.heap.objs.size + 2, s1.heap.objs.size + 3, s1.heap.objs.size, s1.heap.objs.size + 1], _, _, H1, rfl, I2, turnC D ⟨?_, ?_, ?_, ?_, ?_⟩, ⟨⟨_, he⟩, ⟨_, _, .inl rfl, hk' _ _ hz⟩, hk' _ _ hTI, ⟨_, _, hk' _ _ hTO⟩, ⟨_, hk' _ _ h1, rfl, rfl⟩, ⟨_, hk' _ _ h2, rfl, rfl⟩⟩, fun c hc => ?_, q⟩
      · rw [big]; exact Nat.ne_of_gt (Nat.add_lt_add_left (by decide) _)
      · rw [big]; exact Nat.ne_of_gt (Nat.add_lt_add_left (by decide) _)
      · rw [big]; exact Nat.ne_of_gt (Nat.add_lt_add_left (by decide) _)
      · rw [big]; exact Nat.ne_of_gt (Nat.lt_add_of_pos_right (by decide))
      · rw [big]; exact Nat.ne_of_gt (Nat.add_lt_add_left (by decide) _)
      · have le : s1.heap.objs.size ≤ c := by
          rcases six.mp hc with m | m | m | m | m | m <;> rw [m] <;> first | exact Nat.le_add_right _ _ | exact Nat.le_refl _ | skip
          rw [big]; exact Nat.le_add_right _ _
        exact I1.fpOk le (I1.hok.fresh le)
end Dl
set_option Elab.async false
set_option linter.all false
set_option maxRecDepth 100000
set_option maxHeartbeats 4200000
/-! Rules over data for the further iterators, for isinstance, divmod, list(range), raise. -/
namespace Dl
open PySem PySem.Spec PyProof.Rows L2 StX
section
variable {K : PySem.W.Frag} {ρ : Env} {P : PD} {R : List D → Env → Prop} {ta tb : TE} {t : TA} {E : De}
theorem zero_add_nat (i : Nat) : V.int (i : Nat) = V.int (0 + (i : Nat)) := by rw [Int.zero_add]
theorem goes_A {Hk : Hp} {a : Addr} {xs : List V} {ds : List D} (hs : SqT K Hk a xs) (hr : RpL K Hk ds xs) : Goes K (ItA K a) (pairs (nums 0 ds.length) ds) Hk := by
  have hl : (pairs (nums 0 ds.length) ds).length = ds.length := by rw [pairs_len, nums_len, Nat.min_self]
  refine ⟨fun i H hi s => ?_, fun H s => ⟨xs, sameT s hs, by rw [hl]; exact hr.length⟩, fun i H x H' Hk' d hd s1 s2 hy => ?_⟩
  · rw [hl] at hi
    obtain ⟨y, h1, _⟩ := hr.get (List.getElem?_eq_getElem hi)
    exact ⟨xs, y, sameT s hs, h1⟩
  · obtain ⟨N, z, rfl, hN, e, hx⟩ := hy
    obtain ⟨d1, d2, g1, g2, rfl⟩ := pairs_at hd
    obtain ⟨hi, rfl⟩ := nums_at g1
    obtain ⟨y, h1, h2⟩ := hr.get g2
    obtain rfl := Option.some.inj ((hx xs (sameT (s1.trans s2) hs)).symm.trans h1)
    exact pair1 s2 hN e (zero_add_nat i) (h2.mono s1)
theorem goes_B {Hk : Hp} {a b : Addr} {xs ys : List V} {ds es : List D} (hs : SqT K Hk a xs) (hr : RpL K Hk ds xs) (hs' : SqL K Hk b ys) (hr' : RpL K Hk es ys) : Goes K (ItB K a b) (pairs ds es) Hk := by
  have l1 := hr.length
  have l2 := hr'.length
  refine ⟨fun i H hi s => ?_, fun H s => ⟨xs, ys, sameT s hs, s.seq hs', ?_, ?_, ?_⟩, fun i H x H' Hk' d hd s1 s2 hy => ?_⟩
  · rw [pairs_len] at hi
    obtain ⟨y, h1, _⟩ := hr.get (List.getElem?_eq_getElem (by omega : i < ds.length))
    obtain ⟨z, h2, _⟩ := hr'.get (List.getElem?_eq_getElem (by omega : i < es.length))
    exact ⟨xs, ys, y, z, sameT s hs, s.seq hs', h1, h2⟩
  · rw [pairs_len, l1]; omega
  · rw [pairs_len, l2]; omega
  · rw [pairs_len, l1, l2]; omega
  · obtain ⟨N, z1, z2, rfl, hN, e, hx, hx'⟩ := hy
    obtain ⟨d1, d2, g1, g2, rfl⟩ := pairs_at hd
    obtain ⟨y, h1, h2⟩ := hr.get g1
    obtain ⟨y', h1', h2'⟩ := hr'.get g2
    obtain rfl := Option.some.inj ((hx xs (sameT (s1.trans s2) hs)).symm.trans h1)
    obtain rfl := Option.some.inj ((hx' ys ((s1.trans s2).seq hs')).symm.trans h1')
    exact pair1 s2 hN e (h2.mono s1) (h2'.mono s1)
theorem goes_T {Hk : Hp} {a b : Addr} {xs ys : List V} {ds es : List D} (hs : SqT K Hk a xs) (hr : RpL K Hk ds xs) (hs' : SqT K Hk b ys) (hr' : RpL K Hk es ys) : Goes K (RZ.ItzT K a b) (pairs ds es) Hk := by
  have l1 := hr.length
  have l2 := hr'.length
  refine ⟨fun i H hi s => ?_, fun H s => ⟨xs, ys, sameT s hs, sameT s hs', ?_⟩, fun i H x H' Hk' d hd s1 s2 hy => ?_⟩
  · rw [pairs_len] at hi
    obtain ⟨y, h1, _⟩ := hr.get (List.getElem?_eq_getElem (by omega : i < ds.length))
    obtain ⟨z, h2, _⟩ := hr'.get (List.getElem?_eq_getElem (by omega : i < es.length))
    exact ⟨xs, ys, y, z, sameT s hs, sameT s hs', h1, h2⟩
  · rw [pairs_len, l1, l2]; omega
  · obtain ⟨N, z1, z2, rfl, hN, e, hx, hx'⟩ := hy
    obtain ⟨d1, d2, g1, g2, rfl⟩ := pairs_at hd
    obtain ⟨y, h1, h2⟩ := hr.get g1
    obtain ⟨y', h1', h2'⟩ := hr'.get g2
    obtain rfl := Option.some.inj ((hx xs (sameT (s1.trans s2) hs)).symm.trans h1)
    obtain rfl := Option.some.inj ((hx' ys (sameT (s1.trans s2) hs')).symm.trans h1')
    exact pair1 s2 hN e (h2.mono s1) (h2'.mono s1)
/-- pairs in pairs: each turn's number, then the pair -/
theorem goes_C {Hk : Hp} {a b : Addr} {xs ys : List V} {ds es : List D} (hs : SqL K Hk a xs) (hr : RpL K Hk ds xs) (hs' : SqL K Hk b ys) (hr' : RpL K Hk es ys) : Goes K (ItC K a b) (pairs (nums 0 (pairs ds es).length) (pairs ds es)) Hk := by
  have l1 := hr.length
  have l2 := hr'.length
  have hl : (pairs (nums 0 (pairs ds es).length) (pairs ds es)).length = min ds.length es.length := by rw [pairs_len, nums_len, Nat.min_self, pairs_len]
  refine ⟨fun i H hi s => ?_, fun H s => ⟨xs, ys, s.seq hs, s.seq hs', ?_⟩, fun i H x H' Hk' d hd s1 s2 hy => ?_⟩
  · rw [hl] at hi
    obtain ⟨y, h1, _⟩ := hr.get (List.getElem?_eq_getElem (by omega : i < ds.length))
    obtain ⟨z, h2, _⟩ := hr'.get (List.getElem?_eq_getElem (by omega : i < es.length))
    exact ⟨xs, ys, y, z, s.seq hs, s.seq hs', h1, h2⟩
  · rw [hl, l1, l2]; omega
  · obtain ⟨N, N', z1, z2, rfl, hN, hN', hne, e, hx, hx'⟩ := hy
    obtain ⟨d0, dp, g0, gp, rfl⟩ := pairs_at hd
    obtain ⟨hi, rfl⟩ := nums_at g0
    obtain ⟨d1, d2, g1, g2, rfl⟩ := pairs_at gp
    obtain ⟨y, h1, h2⟩ := hr.get g1
    obtain ⟨y', h1', h2'⟩ := hr'.get g2
    obtain rfl := Option.some.inj ((hx xs ((s1.trans s2).seq hs)).symm.trans h1)
    obtain rfl := Option.some.inj ((hx' ys ((s1.trans s2).seq hs')).symm.trans h1')
    obtain ⟨Hk2, a1, a2, a3, a4, a5⟩ := pair1 (H' := upd H N (.tup [z1, z2])) s2 hN rfl (h2.mono s1) (h2'.mono s1)
    obtain ⟨Hk3, b1, b2, b3, b4, b5⟩ := pair1 (d := .int (0 + (i : Nat))) a2 (by rw [upd_ne (Ne.symm hne)]; exact hN') e (zero_add_nat i) a5
    refine ⟨Hk3, a1.trans b1, b2, fun c o h => b3 c o (a3 c o h), fun c h => ?_, b5⟩
    rcases b4 c h with z | z
    · exact a4 c z
    · by_cases q : c = N
      · exact .inr (by rw [q]; exact hN)
      · rw [upd_ne q] at z; exact .inr z
theorem i_enumA (h : wA K t ρ fun ds ρ1 => ∃ es, ds = [.tup es] ∧ R (pairs (nums 0 es.length) es) ρ1) : wI K (iEnumA K t) ρ R := fun σ Hk H2 A Q q => h σ Hk H2 A _ fun xs ds ρ1 Hk1 H21 ⟨es, e, p⟩ A1 T1 r1 => by
  subst e
  obtain ⟨y, ys, rfl, ⟨a, zs, rfl, hs, hr⟩, hn⟩ := r1
  obtain rfl : ys = [] := hn
  exact ⟨a, zs, rfl, sameT A1.sub hs, q _ _ ρ1 Hk1 H21 p A1 T1 (goes_A hs hr)⟩
theorem i_zipTL (h : wA K t ρ fun ds ρ1 => ∃ es d fs, ds = [.tup es, d] ∧ lst? d = some fs ∧ R (pairs es fs) ρ1) : wI K (iZipTL K t) ρ R := fun σ Hk H2 A Q q => h σ Hk H2 A _ fun xs ds ρ1 Hk1 H21 ⟨es, d, fs, e, e2, p⟩ A1 T1 r1 => by
  subst e
  obtain ⟨y, ys, rfl, ⟨a, zs, rfl, hs, hr⟩, z, ws, rfl, r3, hn⟩ := r1
  obtain ⟨b, vs, rfl, hs', hr'⟩ := seqOf (Same.refl _) r3 e2
  obtain rfl : ws = [] := hn
  exact ⟨a, b, zs, vs, rfl, sameT A1.sub hs, A1.sub.seq hs', q _ _ ρ1 Hk1 H21 p A1 T1 (goes_B hs hr hs' hr')⟩
theorem i_enumZip (h : wA K t ρ fun ds ρ1 => ∃ d d' es fs, ds = [d, d'] ∧ lst? d = some es ∧ lst? d' = some fs ∧ R (pairs (nums 0 (pairs es fs).length) (pairs es fs)) ρ1) : wI K (iEnumZip K t) ρ R := fun σ Hk H2 A Q q => h σ Hk H2 A _ fun xs ds ρ1 Hk1 H21 ⟨d, d', es, fs, e, e2, e3, p⟩ A1 T1 r1 => by
  subst e
  obtain ⟨y, ys, rfl, r2, z, ws, rfl, r3, hn⟩ := r1
  obtain ⟨a, zs, rfl, hs, hr⟩ := seqOf (Same.refl _) r2 e2
  obtain ⟨b, vs, rfl, hs', hr'⟩ := seqOf (Same.refl _) r3 e3
  obtain rfl : ws = [] := hn
  exact ⟨a, b, zs, vs, rfl, A1.sub.seq hs, A1.sub.seq hs', q _ _ ρ1 Hk1 H21 p A1 T1 (goes_C hs hr hs' hr')⟩
/-- zip of two tuples -/
theorem i_zipTT (h : wA K t ρ fun ds ρ1 => ∃ es fs, ds = [.tup es, .tup fs] ∧ R (pairs es fs) ρ1) : wI K (RZ.iZipA K t) ρ R := fun σ Hk H2 A Q q => h σ Hk H2 A _ fun xs ds ρ1 Hk1 H21 ⟨es, fs, e, p⟩ A1 T1 r1 => by
  subst e
  obtain ⟨y, ys, rfl, ⟨a, zs, rfl, hs, hr⟩, z, ws, rfl, ⟨b, vs, rfl, hs', hr'⟩, hn⟩ := r1
  obtain rfl : ws = [] := hn
  exact ⟨a, b, zs, vs, rfl, .inr ⟨sameT A1.sub hs, sameT A1.sub hs', q _ _ ρ1 Hk1 H21 p A1 T1 (goes_T hs hr hs' hr')⟩⟩
/-! ### isinstance -/
def tyD : D → Option String
  | .v .non => some "NoneType"
  | .v (.bl _) => some "bool"
  | .v (.int _) => some "int"
  | .v (.str _) => some "str"
  | .lst _ => some "list"
  | .tup _ => some "tuple"
  | _ => none
theorem tyX {H H' : Hp} (s : Same H H') {d : D} {x : V} {T : String} (r : Rp K H d x) (h : tyD d = some T) : TyX K H' x (.type T) := by
  cases d with
  | v y =>
    obtain rfl : x = y := r
    cases x with
    | non => obtain rfl := Option.some.inj h; exact .base .non
    | bl _ => obtain rfl := Option.some.inj h; exact .base (.bl _)
    | int _ => obtain rfl := Option.some.inj h; exact .base (.int _)
    | str _ => obtain rfl := Option.some.inj h; exact .base (.str _)
    | _ => exact nomatch h
  | lst ds =>
    obtain rfl := Option.some.inj h
    obtain ⟨a, xs, rfl, ha, _⟩ := r
    exact .base (.lst (s _ _ ha))
  | tup ds =>
    obtain rfl := Option.some.inj h
    obtain ⟨a, xs, rfl, ha, _⟩ := r
    rcases sameT s ha with (ha | ⟨o, ha⟩) | ⟨o, its, n, lk, hc, _⟩
    · exact .base (.tup ha)
    · exact .fTuple ha
    · exact .kTuple lk hc
  | _ => exact nomatch h
theorem ca_isi : CaD K (rIsi K) fun ds P => ∃ d T n b, ds = [d, .v (.ty n)] ∧ tyD d = some T ∧ PySem.W.kitOne K (.type T) (.type n) = some b ∧ P (.bl b) := fun ρ σ Hk H2 ds xs A r P Q ⟨d, T, n, b, e, h1, h2, p⟩ q => by
  subst e
  obtain ⟨y, ys, rfl, r1, z, zs, rfl, r2, hn⟩ := r
  obtain rfl : zs = [] := hn
  obtain rfl : z = .ty n := r2
  exact ⟨y, .ty n, _, _, b, rfl, .ty n, tyX A.sub r1 h1, h2, q _ _ Hk H2 p A .refl rfl⟩
theorem ca_isC {C : Addr} : CaD K (fun xs H Q => ∃ a dx fs, xs = [.ref a, .ref C] ∧ H a = some (.ins C dx fs) ∧ Q (.bl true) H) fun ds P => ∃ ns es, ds = [.obj C ns es, .v (.ref C)] ∧ P (.bl true) := fun ρ σ Hk H2 ds xs A r P Q ⟨ns, es, e, p⟩ q => by
  subst e
  obtain ⟨y, ys, rfl, ⟨a, dx, gs, rfl, ha, _⟩, z, zs, rfl, r2, hn⟩ := r
  obtain rfl : zs = [] := hn
  obtain rfl : z = .ref C := r2
  exact ⟨a, dx, gs, rfl, A.sub _ _ ha, q _ _ Hk H2 p A .refl rfl⟩
theorem ca_divmod : CaD K (fun xs H Q => ∃ i j, xs = [.int i, .int j] ∧ CDiv i j ∧ ∀ p, H p = none → Q (.ref p) (upd H p (.tup [.int (i / j), .int (i % j)]))) fun ds P => ∃ i j : Int, ds = [.int i, .int j] ∧ CDiv i j ∧ P (.tup [.int (i / j), .int (i % j)]) := fun ρ σ Hk H2 ds xs A r P Q ⟨i, j, e, c, p⟩ q => by
  subst e
  obtain ⟨y, ys, rfl, r1, z, zs, rfl, r2, hn⟩ := r
  obtain rfl : zs = [] := hn
  obtain rfl : y = .int i := r1
  obtain rfl : z = .int j := r2
  exact ⟨i, j, rfl, c, newTo (d := .tup [.int (i / j), .int (i % j)]) A p q fun a _ e => ⟨a, _, rfl, .inl (.inl upd_same), ⟨_, _, rfl, rfl, _, _, rfl, rfl, rfl⟩⟩⟩
theorem od_inSign : OpD K (fun x y H Q => ∃ (c : Nat) (z : Str), x = .str ⟨#[c]⟩ ∧ y = .str z ∧ Q (.bl (decide (c ∈ z.cps.toList))) H) fun da db P => ∃ (c : Nat) (z : Str), da = .str ⟨#[c]⟩ ∧ db = .str z ∧ P (.bl (decide (c ∈ z.cps.toList))) := fun ρ σ Hk H2 da db x y A ra rb P Q ⟨c, z, e1, e2, p⟩ q => by
  subst e1 e2
  exact ⟨c, z, ra, rb, q _ _ Hk H2 p A .refl rfl⟩
/-- list(range(a, b)) -/
theorem w_lstRg (h : wE K ta ρ fun d ρ1 => wE K tb ρ1 fun e ρ2 => ∃ i j : Int, d = .int i ∧ e = .int j ∧ RgOk i j ∧ P (.lst (nums i (j - i).toNat)) ρ2) : wE K (tLstRg (tRg2 ta tb)) ρ P := fun σ Hk H2 A Q q =>
  h σ Hk H2 A _ fun x d ρ1 Hk1 H21 h1 A1 T1 r1 => h1 σ Hk1 H21 A1 _ fun y e ρ2 Hk2 H22 ⟨i, j, e1, e2, ok, p⟩ A2 T2 r2 => by
    subst e1 e2
    refine ⟨i, j, r1, r2, ok, newTo (P := fun d => P d ρ2) (d := .lst (nums i (j - i).toNat)) A2 p (fun z d Hk' H2' p' A' T' => q z d ρ2 Hk' H2' p' A' ((T1.trans T2).trans T')) fun a _ e => ⟨a, _, rfl, upd_same, ?_⟩⟩
    have h : RpL K (upd Hk2 a (.lst (rgV i j))) (((List.range (j - i).toNat).map fun k => i + ((k : Nat) : Int)).map D.int) (rgV i j) := RpL.ints.mpr (by unfold rgV; rw [List.map_map]; rfl)
    unfold nums
    rw [List.map_map] at h
    exact h
theorem wS_false {t : TS} (h : False) : wS K t ρ E := h.elim
end
end Dl
set_option Elab.async false
set_option linter.all false
set_option maxRecDepth 100000
set_option maxHeartbeats 4200000
/-! Rules over data: classes, methods, properties, keywords. -/
namespace Dl
open PySem PySem.Spec PyProof.Rows L2 StX
/-! ### objects that are made -/
/-- what an __init__ promises: the fields ns get the data -/
def spI (K : PySem.W.Frag) (C : Addr) (ns : List Str) (S : List D → Prop) : Sp := fun vs H1 Q _ => ∃ x dx rest Hk ds, vs = .ref x :: rest ∧ dx ≠ x ∧ H1 x = some (.ins C dx []) ∧ Hk x = none ∧ Hk dx = none ∧ Same Hk H1 ∧ RpL K Hk ds rest ∧ ds.length = ns.length ∧ S ds ∧
  ∀ Hk' H2' gs, Same Hk Hk' → Same Hk' H2' → Hk' x = none → Hk' dx = none → H2' x = some (.ins C dx gs) → gs.map (·.1) = ns → RpL K Hk' ds (gs.map (·.2)) → (∀ a o, a ≠ x → H1 a = some o → H2' a = some o) → (∀ a, Hk' a ≠ none → Hk a ≠ none ∨ H1 a = none) → Q .non H2'
section
variable {K : PySem.W.Frag} {ρ : Env} {P : PD} {ta : TE} {t : TA}
theorem w_mk {C : Addr} {ns : List Str} {S : List D → Prop} {E : XK} (h : wA K t ρ fun ds ρ1 => ds.length = ns.length ∧ S ds ∧ P (.obj C ns ds) ρ1) : wE K (tMake C (spI K C ns S) [] E t) ρ P := fun σ Hk H2 A Q q =>
  h σ Hk H2 A _ fun ys ds ρ1 Hk1 H21 ⟨hl, hS, p⟩ A1 T1 r1 x dx hx hdx hne => by
    have kx := A1.free hx
    have kdx := A1.free hdx
    have keep : ∀ a o, H21 a = some o → upd (upd H21 dx (.own x)) x (.ins C dx []) a = some o := fun a o e => by
      rw [upd_ne (ne_of_none e hx), upd_ne (ne_of_none e hdx)]; exact e
    refine ⟨x, dx, ys, Hk1, ds, by rw [List.append_nil], hne, upd_same, kx, kdx, fun a o e => keep a o (A1.sub a o e), r1, hl, hS, fun Hk' H2' gs s1 s2 nx ndx hX hn hr hk hnew => ⟨rfl, ?_⟩⟩
    have e1 : Same Hk' (upd Hk' x (.ins C dx gs)) := fun a o e => by rw [upd_ne (ne_of_none e nx)]; exact e
    have s3 : Same (upd Hk' x (.ins C dx gs)) H2' := fun a o e => by
      by_cases z : a = x
      · subst z; rw [upd_same] at e; rw [← e]; exact hX
      · rw [upd_ne z] at e; exact s2 a o e
    have k2 : ∀ a o, H21 a = some o → H2' a = some o := fun a o e => hk a o (ne_of_none e hx) (keep a o e)
    have n2 : ∀ a, upd Hk' x (.ins C dx gs) a ≠ none → Hk1 a ≠ none ∨ H21 a = none := fun a e => by
      by_cases z : a = x
      · rw [z]; exact .inr hx
      · rw [upd_ne z] at e
        rcases hnew a e with y | y
        · exact .inl y
        · by_cases v : a = dx
          · rw [v]; exact .inr hdx
          · rw [upd_ne z, upd_ne v] at y; exact .inr y
    have A2 : At K ρ1 σ (upd Hk' x (.ins C dx gs)) H2' := A1.grow (s1.trans e1) s3 k2 n2
    have T2 : Tr (Own ρ1 σ) Hk1 H21 (Own ρ1 σ) (upd Hk' x (.ins C dx gs)) H2' := ⟨s1.trans e1, fun a o e _ => k2 a o e, fun a e => (n2 a e).imp id .inl, fun a e => .inl e⟩
    exact q _ _ ρ1 _ H2' p A2 (T1.trans T2) ⟨x, dx, gs, rfl, upd_same, hn, hr.mono e1⟩
end
/-- a class that may be made -/
structure OkI (Pr : Program) (w : World) (K : PySem.W.Frag) (mg : Str → Option Value) (base : Heap) (k : Nat) (C : Addr) (ps : List Str) (sp : Sp) : Prop where
  ex : ∃ f fd, FnOk Pr w K mg base CX0 k f fd ps sp ∧ Binds K fd ps [] ∧ Mk K C f
structure OkM (Pr : Program) (w : World) (K : PySem.W.Frag) (mg : Str → Option Value) (base : Heap) (k : Nat) (C : Addr) (m : Str) (ps : List Str) (sp : Sp) : Prop where
  ex : ∃ f fd, FnOk Pr w K mg base CX0 k f fd ps sp ∧ Binds K fd ps [] ∧ Meth K C m f
structure OkP (Pr : Program) (w : World) (K : PySem.W.Frag) (mg : Str → Option Value) (base : Heap) (k : Nat) (C : Addr) (m : Str) (ps : List Str) (sp : Sp) : Prop where
  ex : ∃ p f fd, FnOk Pr w K mg base CX0 k f fd ps sp ∧ Binds K fd ps [] ∧ PropOf K C m p f
/-- called by keywords alone, the last parameter first -/
def back {α : Type} : List α → List α → List α
  | [], [a, b, c] => [c, b, a]
  | [], [a, b] => [b, a]
  | _, _ => []
structure OkK (Pr : Program) (w : World) (K : PySem.W.Frag) (mg : Str → Option Value) (base : Heap) (k : Nat) (x : Str) (ps ks : List Str) (sp : Sp) : Prop where
  ex : ∃ f fd, FnOk Pr w K mg base CX0 k f fd ps sp ∧ KBinds K fd ps ks back back ∧ mg x = some (.ref f) ∧ PySem.W.keepIn K (.ref f) = true
theorem back_rp {K : PySem.W.Frag} {H : Hp} {ds es : List D} {xs ys : List V} (h1 : RpL K H ds xs) (h2 : RpL K H es ys) : RpL K H (back ds es) (back xs ys) := by
  cases ds with
  | cons d ds =>
    obtain ⟨y, zs, rfl, _⟩ := h1
    exact rfl
  | nil =>
    obtain rfl : xs = [] := h1
    match es, h2 with
    | [], h2 => obtain rfl : ys = [] := h2; exact rfl
    | [a], h2 => obtain ⟨y, _, rfl, _, h2⟩ := h2; obtain rfl := h2; exact rfl
    | [a, b], h2 =>
      obtain ⟨y, _, rfl, g1, z, _, rfl, g2, h2⟩ := h2
      obtain rfl := h2
      exact ⟨z, _, rfl, g2, y, _, rfl, g1, rfl⟩
    | [a, b, c], h2 =>
      obtain ⟨y, _, rfl, g1, z, _, rfl, g2, u, _, rfl, g3, h2⟩ := h2
      obtain rfl := h2
      exact ⟨u, _, rfl, g3, z, _, rfl, g2, y, _, rfl, g1, rfl⟩
    | a :: b :: c :: d :: es, h2 =>
      obtain ⟨y, _, rfl, g1, z, _, rfl, g2, u, _, rfl, g3, v, _, rfl, g4, h2⟩ := h2
      exact rfl
theorem back_vals {vs : List V} {us : List Value} {zs : List V} {ws : List Value} (h1 : Vals vs us) (h2 : Vals zs ws) : Vals (back vs zs) (back us ws) := by
  cases h1 with
  | cons r1 r2 => exact .nil
  | nil =>
    cases h2 with
    | nil => exact .nil
    | cons g1 h2 =>
      cases h2 with
      | nil => exact .nil
      | cons g2 h2 =>
        cases h2 with
        | nil => exact .cons g2 (.cons g1 .nil)
        | cons g3 h2 =>
          cases h2 with
          | nil => exact .cons g3 (.cons g2 (.cons g1 .nil))
          | cons g4 h2 => exact .nil
section
variable {X : Cx} {k : Nat} {x m : Str} {C : Addr} {ps ks : List Str} {sp : Sp} {p pos apos : Pos} {e o : Expr} {es : List Expr} {kws : List Keyword} {t tk : TA} {ta : TE}
theorem pe_mkD (hm : X.mg x = some (.ref C)) (O : OkI X.prog X.w X.K X.mg X.base k C ps sp) (hr : Room (k + 1) X.A) (ha : PA X (e :: es) t) (hg : Gl X x := by rfl) (hdb : (x == ("__debug__" : Str)) = false := by decide)
    (he : starEach (e :: es) X.env = (false, eval e X.env) :: starEach es X.env := by rfl) (hpl : (backTo pos (starEach es X.env)).any (·.1) = false := by rfl) : PE X (.Call (.Name x p) (e :: es) [] pos) (tMake C sp [] E0 t) := by
  obtain ⟨f, fd, F, b, M⟩ := O.ex
  exact pe_make M F hr hg hm b .nil pass0 ha hdb he hpl
theorem pe_okM {pl : Sem Bool} (c : Cls X.K C) (O : OkM X.prog X.w X.K X.mg X.base k C m ps sp) (hr : Room k X.A) (ho : PE X o ta) (ha : PA X (e :: es) t)
    (hst : starEach (e :: es) X.env = (false, eval e X.env) :: starEach es X.env := by rfl) (hpl : (backTo pos (starEach es X.env)).any (·.1) = false := by
        rfl)
    (ht : eval (.Call (.Attribute o m apos) (e :: es) [] pos) X.env =
        (do
      let ov ← eval o X.env
      standAt apos.atName
      let (f, first) ← holding [ov] (getMethod ov m
          pl)
      callWith pos f first (backTo pos (starEach (e :: es) X.env)) (backToKw pos (keywordEach [] X.env))) := by
          rfl) :
    PE X (.Call (.Attribute o m apos) (e :: es) [] pos) (tMeth C m sp [] E0 ta t) := by
  obtain ⟨f, fd, F, b, M⟩ := O.ex
  exact pe_meth (pl := pl) ho c M F hr b .nil pass0 ha hst hpl ht
theorem pe_okP (c : Cls X.K C) (O : OkP X.prog X.w X.K X.mg X.base k C m ps sp) (hr : Room (k + 1) X.A) (ho : PE X o ta) (hab : attributeBase o m X.env (eval o X.env) = eval o X.env := by rfl) : PE X (.Attribute o m pos) (tProp C sp [] E0 ta) := by
  obtain ⟨p, f, fd, F, b, M⟩ := O.ex
  exact pe_prop ho c M F hr b .nil pass0 hab
theorem pe_okK (O : OkK X.prog X.w X.K X.mg X.base k x ps ks sp) (hr : Room k X.A) (hkw : PK X kws tk) (hg : Gl X x := by rfl) (hall : (backToKw pos (keywordEach kws X.env)).all (·.1.isSome) = true := by rfl) (hks : (backToKw pos (keywordEach kws X.env)).filterMap (·.1) = ks := by rfl)
    (hdb : (x == ("__debug__" : Str)) = false := by decide) (hpl : ((backTo pos (starEach [] X.env)).any (·.1) || (backToKw pos (keywordEach kws X.env)).any (·.1.isNone)) = false := by rfl) : PE X (.Call (.Name x p) [] kws pos) (tCallK sp back E0 tNil tk) := by
  obtain ⟨f, fd, F, b, hm, hk⟩ := O.ex
  refine ⟨fun pins s σ H Q I h =>
      ?_⟩
  refine wpAny_Call_Name_kw (ld_glob I hg hm ?_
      hdb)
  refine PySem.W.callWith_KW0 (h₀ := X.base) I.ok.mod.kin hk hall ?_ hpl
  refine thn (hkw.run pos pins s σ H _ I h) fun ws s2 ⟨zs, H2, I2, rz, q2⟩ => ⟨I2.kIn, ?_⟩
  rw [hks]
  exact run_fnk (us := []) (vs := []) F hr b pass0 I2 .nil rz q2
end
end Dl
set_option Elab.async false
set_option linter.all false
set_option maxRecDepth 100000
set_option maxHeartbeats 4200000
/-! Rules over data: dicts made by a comprehension, read by get. -/
namespace Dl
open PySem PySem.Spec PyProof.Rows L2 StX
def kD (k : Key) : D := .v (kV k)
section
variable {K : PySem.W.Frag} {ρ : Env} {P : PD}
theorem putK_new {kvs : List (Key × V)} {k : Key} {z : V} (h : k ∉ kvs.map (·.1)) : putK kvs k z = kvs ++ [(k, z)] := by
  unfold putK
  rw [if_neg]
  intro e
  rw [List.any_eq_true] at e
  obtain ⟨p, hp, he⟩ := e
  exact h (List.mem_map.mpr ⟨p, hp, of_decide_eq_true he⟩)
/-- {k: e for g in it}, no key twice -/
def DcD (K : PySem.W.Frag) (g : TG) (tt : TT) (tk tv : TE) (vs : List Nat) (P : PD) (ds : List D) (ρ1 : Env) : Prop := ∃ (ks : List Key) (es : List D), ks.length = ds.length ∧ es.length = ds.length ∧ ds.length ≤ 100000 ∧ (∀ (i j : Nat) (k : Key), ks[i]? = some k → ks[j]? = some k → i = j) ∧ wipeS ρ1 vs = ρ1 ∧
  (∀ (i : Nat) d k e, ds[i]? = some d → ks[i]? = some k → es[i]? = some e → wG K vs g d ρ1 fun ρ3 => wT K tt ρ3 fun b ρ4 => b = true ∧ wE K tk ρ4 fun dk ρ5 => dk = kD k ∧ wE K tv ρ5 fun e' ρ6 => e' = e ∧ wipeS ρ6 vs = ρ1) ∧ P (.dct ks es) ρ1
theorem w_dc {wi : TI} {g : TG} {tt : TT} {tk tv : TE} {vs : List Nat} (hi : wI K wi ρ (DcD K g tt tk tv vs P)) : wE K (tDc wi g tt tk tv vs) ρ P := fun σ Hk H2 A Q q =>
  hi σ Hk H2 A _ fun J ds ρ1 Hk1 H21 ⟨ks, es, hkl, hel, hn, hnd, hw, hs, hd⟩ A1 T1 G Dd hD => by
    have hDk := A1.free hD
    have hDo := A1.notOwn hD
    refine ⟨fun i m H => m = ds.length - i ∧ i ≤ ds.length ∧ ∃ Hk2 kvs, At K ρ1 σ Hk2 H ∧ Tr (Own ρ1 σ) Hk1 H21 (Own ρ1 σ) Hk2 H ∧ Hk2 Dd = none ∧ H Dd = some (.dK kvs) ∧ kvs.map (·.1) = ks.take i ∧ RpL K Hk2 (es.take i) (kvs.map (·.2)),
      ⟨ds.length, by simp, Nat.zero_le _, Hk1, [], A1.hid _ hD, ⟨Same.refl _, fun a o h _ => by rw [upd_ne (ne_of_none h hD)]; exact h, fun a h => .inl h, fun a h => .inl h⟩, hDk, upd_same, rfl, rfl⟩, ?_⟩
    rintro i m H ⟨rfl, hi, Hk2, kvs, A2, T2, hk, hx, hks, hr⟩
    by_cases hlt : i < ds.length
    · refine .inr ⟨G.go i H hlt (T2.ex.trans A2.sub), fun H' => i + 1 ≤ ds.length ∧ ∃ Hk2 kvs, At K ρ1 σ Hk2 H' ∧ Tr (Own ρ1 σ) Hk1 H21 (Own ρ1 σ) Hk2 H' ∧ Hk2 Dd = none ∧ H' Dd = some (.dK kvs) ∧ kvs.map (·.1) = ks.take (i + 1) ∧ RpL K Hk2 (es.take (i + 1)) (kvs.map (·.2)), fun H' h => ⟨ds.length - (i + 1), by omega, rfl, h⟩, fun x H' hy => ?_⟩
      obtain ⟨Hk3, s1, s2, k1, n1, rx⟩ := G.yld i H x H' Hk2 _ (List.getElem?_eq_getElem hlt) T2.ex A2.sub hy
      have A3 : At K ρ1 σ Hk3 H' := A2.grow s1 s2 k1 n1
      have T3 : Tr (Own ρ1 σ) Hk2 H (Own ρ1 σ) Hk3 H' := ⟨s1, fun a o h _ => k1 a o h, fun a h => (n1 a h).imp id .inl, fun a h => .inl h⟩
      have A4 : At K ρ1 (wipe σ vs) Hk3 H' := by
        have z := At.wipe vs A3
        rw [hw] at z
        exact z
      have ow : ∀ a, Own ρ1 (wipe σ vs) a → Own ρ1 σ a := fun a h => by
        have h' : Own (wipeS ρ1 vs) (wipe σ vs) a := by rw [hw]; exact h
        exact own_wipe h'
      have hDH' : H' Dd = some (.dK kvs) := k1 _ _ hx
      have hk3 : Hk3 Dd = none := by
        cases z : Hk3 Dd with
        | none => rfl
        | some u =>
          rcases n1 Dd (by rw [z]; exact fun y => nomatch y) with y | y
          · exact absurd hk y
          · rw [hx] at y; exact nomatch y
      have hik : i < ks.length := by omega
      have hie : i < es.length := by omega
      refine hs i _ ks[i] es[i] (List.getElem?_eq_getElem hlt) (List.getElem?_eq_getElem hik) (List.getElem?_eq_getElem hie) (wipe σ vs) Hk3 H' x A4 rx _ fun ρ3 σ2 Hk4 H4 h4 A5 T5 w5 => ⟨w5.trans (wipe_wipe σ vs), ?_⟩
      have e2 : wipe σ2 vs = wipe σ vs := w5.trans (wipe_wipe σ vs)
      have T5' : Tr (Own ρ1 σ) Hk3 H' (Own ρ3 σ2) Hk4 H4 := ⟨T5.ex, fun a o h z => T5.fro a o h fun y => z (ow a y), fun a h => (T5.new a h).imp id fun z => z.imp id (ow a), fun a h => (T5.own a h).imp (ow a) id⟩
      refine h4 σ2 Hk4 H4 A5 _ fun b ρ4 Hk5 H5 ⟨eb, h5⟩ A6 T6 => ?_
      subst eb
      rw [if_pos rfl]
      refine h5 σ2 Hk5 H5 A6 _ fun y dk ρ5 Hk6 H6 ⟨edk, h6⟩ A7 T7 r7 => ?_
      subst edk
      refine h6 σ2 Hk6 H6 A7 _ fun z e ρ6 Hk7 H7 ⟨ee, hw6⟩ A8 T8 r8 => ?_
      subst ee
      have TT : Tr (Own ρ1 σ) Hk3 H' (Own ρ6 σ2) Hk7 H7 := ((T5'.trans T6).trans T7).trans T8
      have k2 : H7 Dd = some (.dK kvs) := TT.fro _ _ hDH' hDo
      have k3 : Hk7 Dd = none := by
        cases z : Hk7 Dd with
        | none => rfl
        | some u =>
          rcases TT.new Dd (by rw [z]; exact fun y => nomatch y) with y | y | y
          · exact absurd hk3 y
          · rw [hDH'] at y; exact nomatch y
          · exact absurd y hDo
      have k4 : ¬ Own ρ6 σ2 Dd := fun z => by
        rcases TT.own Dd z with y | y
        · exact hDo y
        · rw [hDH'] at y; exact nomatch y
      have lk : kvs.length = i := by
        have := congrArg List.length hks
        rw [List.length_map, List.length_take] at this
        omega
      have hnew : ks[i] ∉ kvs.map (·.1) := fun z => by
        rw [hks] at z
        obtain ⟨j, hj, ej⟩ := List.mem_iff_getElem.mp z
        rw [List.length_take] at hj
        rw [List.getElem_take] at ej
        have := hnd j i ks[i] (by rw [List.getElem?_eq_getElem (by omega), ej]) (List.getElem?_eq_getElem hik)
        omega
      refine ⟨kvs, ks[i], r7, k2, by rw [lk]; exact Nat.lt_of_lt_of_le hlt (Nat.le_trans hn (by decide)), ?_⟩
      rw [putK_new hnew]
      refine ⟨hlt, Hk7, kvs ++ [(ks[i], z)], ?_, ?_, k3, upd_same, ?_, ?_⟩
      · have A9 := A8.unwipe e2
        rw [hw6] at A9
        refine ⟨fun a o h => ?_, A9.len, fun j s o z1 z2 => ?_, A9.ds⟩
        · rw [upd_ne (fun z => by rw [z, k3] at h; exact nomatch h)]
          exact A9.sub a o h
        · have z3 := A9.sl j s o z1 z2
          cases s with
          | any => trivial
          | dat d => exact z3
          | own es =>
            obtain ⟨p, zs, q1, q2, q3, q4⟩ := z3
            refine ⟨p, zs, q1, q2, ?_, q4⟩
            rw [upd_ne (fun z => hDo ⟨j, es, z1, by rw [← z, ← q1]; exact z2⟩)]
            exact q3
      · have T9 : Tr (Own ρ1 σ) Hk1 H21 (Own ρ6 σ2) Hk7 H7 := (T2.trans T3).trans TT
        have T10 := T9.lose (O'' := Own (wipeS ρ6 vs) σ) fun a h => own_unwipe e2 h
        rw [hw6] at T10
        refine ⟨T10.ex, fun a o h z => ?_, T10.new, T10.own⟩
        rw [upd_ne (fun y => by rw [y, hD] at h; exact nomatch h)]
        exact T10.fro a o h z
      · rw [List.map_append, hks, List.take_add_one, List.getElem?_eq_getElem hik]
        rfl
      · rw [List.map_append, List.take_add_one, List.getElem?_eq_getElem hie]
        exact (hr.mono (s1.trans TT.ex)).app (RpL.one r8)
    · have e : i = ds.length := by omega
      subst e
      refine .inl ⟨G.stop H (T2.ex.trans A2.sub), ?_⟩
      have s1 : Same Hk2 (upd Hk2 Dd (.dK kvs)) := fun a u h => by rw [upd_ne (ne_of_none h hk)]; exact h
      have n1 : ∀ a, upd Hk2 Dd (.dK kvs) a ≠ none → Hk2 a ≠ none ∨ a = Dd := fun a h => by
        by_cases z : a = Dd
        · exact .inr z
        · rw [upd_ne z] at h; exact .inl h
      have A9 : At K ρ1 σ (upd Hk2 Dd (.dK kvs)) H := by
        refine ⟨fun a u h => ?_, A2.len, fun j s o z1 z2 => ?_, A2.ds⟩
        · by_cases z : a = Dd
          · subst z; rw [upd_same] at h; rw [hx]; exact h
          · rw [upd_ne z] at h; exact A2.sub a u h
        · have z3 := A2.sl j s o z1 z2
          cases s with
          | any => trivial
          | dat d =>
            obtain ⟨y, q1, q2⟩ := z3
            exact ⟨y, q1, q2.mono s1⟩
          | own es =>
            obtain ⟨p, zs, q1, q2, q3, q4⟩ := z3
            refine ⟨p, zs, q1, ?_, q3, q4.mono s1⟩
            rw [upd_ne (fun z => hDo ⟨j, es, z1, by rw [← z, ← q1]; exact z2⟩)]
            exact q2
      refine q (.ref Dd) (.dct ks es) ρ1 _ H hd A9 (T1.trans ⟨T2.ex.trans s1, T2.fro, fun a h => ?_, T2.own⟩) ⟨Dd, kvs, rfl, upd_same, ?_, ?_⟩
      · rcases n1 a h with z | z
        · exact T2.new a z
        · subst z
          exact .inr (.inl hD)
      · rw [hks, ← hkl, List.take_length]
      · rw [← hel, List.take_length] at hr
        exact hr.mono s1
/-- what d.get(k, x) finds -/
def getD : List Key → List D → Key → Option D
  | k :: ks, d :: ds, x => if k = x then some d else getD ks ds x
  | _, _, _ => none
theorem getD_val {H : Hp} : ∀ {kvs : List (Key × V)} {ks : List Key} {ds : List D} (x : Key), kvs.map (·.1) = ks → RpL K H ds (kvs.map (·.2)) → (getD ks ds x = none ∧ valV kvs x = none) ∨ ∃ d y, getD ks ds x = some d ∧ valV kvs x = some y ∧ Rp K H d y
  | [], ks, ds, x, e, r => by
    obtain rfl : [] = ks := e
    exact .inl ⟨rfl, rfl⟩
  | (k, y) :: kvs, ks, ds, x, e, r => by
    subst e
    cases ds with
    | nil => exact absurd (show (y :: kvs.map (·.2)) = [] from r) (fun z => nomatch z)
    | cons d ds =>
      obtain ⟨y0, ys, e2, r1, r2⟩ := r
      injection e2 with e3 e4
      subst e3 e4
      by_cases q : k = x
      · refine .inr ⟨d, y, ?_, valV_pos (p := (k, y)) q, r1⟩
        show (if k = x then some d else _) = some d
        rw [if_pos q]
      · have h1 : getD (k :: kvs.map (·.1)) (d :: ds) x = getD (kvs.map (·.1)) ds x := by
          show (if k = x then some d else _) = _
          rw [if_neg q]
        have h2 : valV ((k, y) :: kvs) x = valV kvs x := by
          unfold valV
          rw [List.find?_cons, decide_eq_false q]
        show (getD (k :: kvs.map (·.1)) (d :: ds) x = none ∧ _) ∨ _
        rw [h2]
        rcases getD_val (kvs := kvs) x rfl r2 with ⟨z1, z2⟩ | ⟨d', y', z1, z2, z3⟩
        · exact .inl ⟨h1.trans z1, z2⟩
        · exact .inr ⟨d', y', h1.trans z1, z2, z3⟩
theorem w_dget2 {td ty tx : TE} (h : wE K td ρ fun dd ρ1 => ∃ ks es, dd = .dct ks es ∧ wE K ty ρ1 fun dk ρ2 => ∃ k, dk = kD k ∧ wE K tx ρ2 fun dx ρ3 => P ((getD ks es k).getD dx) ρ3) : wE K (tDGet2 td ty tx) ρ P := fun σ Hk H2 A Q q =>
  h σ Hk H2 A _ fun x dd ρ1 Hk1 H21 ⟨ks, es, e1, h1⟩ A1 T1 r1 => by
    subst e1
    obtain ⟨a, gs, rfl, ha, hn, hr⟩ := r1
    refine ⟨a, rfl, .inl ⟨gs, .inl (A1.sub _ _ ha)⟩, h1 σ Hk1 H21 A1 _ fun y dk ρ2 Hk2 H22 ⟨k, e2, h2⟩ A2 T2 r2 => ?_⟩
    subst e2
    obtain rfl : y = kV k := r2
    refine h2 σ Hk2 H22 A2 _ fun z dx ρ3 Hk3 H23 p A3 T3 r3 => ?_
    have ha3 := A3.sub _ _ (T3.ex _ _ (T2.ex _ _ ha))
    refine ⟨_, DGet.k ha3, ?_⟩
    rcases getD_val k hn (hr.mono (T2.ex.trans T3.ex)) with ⟨z1, z2⟩ | ⟨d', y', z1, z2, z3⟩
    · rw [z2]
      rw [z1] at p
      exact q z dx ρ3 Hk3 H23 p A3 ((T1.trans T2).trans T3) r3
    · rw [z2]
      rw [z1] at p
      exact q y' d' ρ3 Hk3 H23 p A3 ((T1.trans T2).trans T3) z3
end
end Dl
set_option Elab.async false
set_option linter.all false
set_option maxRecDepth 100000
set_option maxHeartbeats 4200000
/-! Defs whose first argument is a list of three numbers that they change; comprehensions of two clauses. -/
namespace Dl
open PySem PySem.Spec PyProof.Rows L2 StX
abbrev Mg := Nat × Nat × Nat
def mugD (x : Mg) : List D := [.int (x.1 : Nat), .int (x.2.1 : Nat), .int (x.2.2 : Nat)]
def mugV (x : Mg) : List V := [.int (x.1 : Nat), .int (x.2.1 : Nat), .int (x.2.2 : Nat)]
theorem mug_rp {K : PySem.W.Frag} {H : Hp} {x : Mg} {xs : List V} : RpL K H (mugD x) xs ↔ xs = mugV x := by
  constructor
  · rintro ⟨y, ys, rfl, h1, y2, ys2, rfl, h2, y3, ys3, rfl, h3, h4⟩
    obtain rfl : y = _ := h1
    obtain rfl : y2 = _ := h2
    obtain rfl : y3 = _ := h3
    obtain rfl : ys3 = [] := h4
    rfl
  · rintro rfl
    exact ⟨_, _, rfl, rfl, _, _, rfl, rfl, _, _, rfl, rfl, rfl⟩
/-- the list's numbers: c at most so many draws -/
def MugOk (x : Mg) (c : Nat) : Prop := x.2.1 < 2147482819 ∧ x.2.2 ≤ c
theorem MugOk.mono {x : Mg} {c c' : Nat} (h : MugOk x c) (l : c ≤ c') : MugOk x c' := ⟨h.1, Nat.le_trans h.2 l⟩
def mugCap : Nat := 1000000
/-- a def that draws at most c times -/
def spM (K : PySem.W.Frag) (c : Nat) (S : List D → (D → Prop) → Prop) : Sp := fun vs H1 Q _ => ∃ p x k rest Hk ds, vs = .ref p :: rest ∧ Hk p = none ∧ H1 p = some (.lst (mugV x)) ∧ MugOk x k ∧ k + c ≤ mugCap ∧ Same Hk H1 ∧ RpL K Hk ds rest ∧ ∃ P, S ds P ∧
  ∀ y d x' Hk' H2', P d → MugOk x' (k + c) → Same Hk' H2' → Hk' p = none → H2' p = some (.lst (mugV x')) → Tr (fun a => a = p) Hk H1 (fun a => a = p) Hk' H2' → Rp K Hk' d y → Q y H2'
section
variable {K : PySem.W.Frag} {ρ : Env} {P : PD} {te ta : TE} {t : TA}
theorem At.afterM {σ : L2.St} {Hk H2 Hk' H2' : Hp} (A : At K ρ σ Hk H2) {i : Nat} {ds es : List D} {p : Addr} {ys : List V} (h : ρ[i]? = some (.own ds)) (hσ : σ[i]? = some (some (.ref p))) (s : Same Hk' H2') (t : Tr (fun a => a = p) Hk H2 (fun a => a = p) Hk' H2')
    (hk' : Hk' p = none) (hp' : H2' p = some (.lst ys)) (r : RpL K Hk' es ys) : At K (ρ.set i (.own es)) σ Hk' H2' ∧ Tr (Own ρ σ) Hk H2 (Own (ρ.set i (.own es)) σ) Hk' H2' := by
  have hi : i < ρ.length := (List.getElem?_eq_some_iff.mp h).1
  have same : ∀ (j : Nat) fs, (ρ.set i (.own es))[j]? = some (.own fs) → ∃ gs, ρ[j]? = some (.own gs) := fun j fs hj => by
    by_cases q : i = j
    · subst q; exact ⟨ds, h⟩
    · rw [List.getElem?_set_ne q] at hj; exact ⟨fs, hj⟩
  have isOwn : Own ρ σ p := ⟨i, ds, h, hσ⟩
  refine ⟨⟨s, by rw [List.length_set, A.len], fun j s o h1 h2 => ?_, fun j l q fs gs h1 h2 h3 h4 => ?_⟩, ⟨t.ex, fun a o ha hn => t.fro a o ha fun z => hn (by rw [z]; exact isOwn), fun a z => ?_, fun a ⟨j, fs, h1, h2⟩ => ?_⟩⟩
  · by_cases q : i = j
    · subst q
      rw [List.getElem?_set_self hi] at h1
      obtain rfl := Option.some.inj h1
      rw [hσ] at h2
      obtain rfl := Option.some.inj h2
      exact ⟨p, ys, rfl, hk', hp', r⟩
    · rw [List.getElem?_set_ne q] at h1
      have z := A.sl j s o h1 h2
      cases s with
      | any => trivial
      | dat d =>
        obtain ⟨y, z1, z2⟩ := z
        exact ⟨y, z1, z2.mono t.ex⟩
      | own fs =>
        obtain ⟨q', zs, z1, z2, z3, z4⟩ := z
        have ne : q' ≠ p := fun y => q (A.ds i j p ds fs h hσ h1 (by rw [h2, z1, y]))
        refine ⟨q', zs, z1, ?_, t.fro _ _ z3 ne, z4.mono t.ex⟩
        cases w : Hk' q' with
        | none => rfl
        | some u =>
          rcases t.new q' (by rw [w]; exact fun y => nomatch y) with y | y | y
          · exact absurd z2 y
          · rw [z3] at y; exact nomatch y
          · exact absurd y ne
  · obtain ⟨f2, g1⟩ := same j fs h1
    obtain ⟨f3, g2⟩ := same l gs h3
    exact A.ds j l q f2 f3 g1 h2 g2 h4
  · rcases t.new a z with y | y | y
    · exact .inl y
    · exact .inr (.inl y)
    · exact .inr (.inr (by rw [y]; exact isOwn))
  · obtain ⟨gs, g⟩ := same j fs h1
    exact .inl ⟨j, gs, g, h2⟩
/-- f(mug, ..) -/
theorem w_callM {c : Nat} {S : List D → (D → Prop) → Prop} {E : XK} {x0 : Mg} (h0 : ρ[0]? = some (.own (mugD x0))) (h : wA K t ρ fun ds ρ1 => ∃ x k, ρ1[0]? = some (.own (mugD x)) ∧ MugOk x k ∧ k + c ≤ mugCap ∧ S ds fun d => ∀ x', MugOk x' (k + c) → P d (ρ1.set 0 (.own (mugD x')))) :
    wE K (tCall (spM K c S) [] E (tCons (tVar 0) t)) ρ P := fun σ Hk H2 A Q q => by
  obtain ⟨p, xs, e1, hk, hp, hr⟩ := A.getOwn h0
  refine ⟨.ref p, e1, h σ Hk H2 A _ fun ys ds ρ1 Hk1 H21 ⟨x, k, h1, ok, cap, hS⟩ A1 T1 r1 => ?_⟩
  obtain ⟨p', zs, e2, hk1, hp1, hr1⟩ := A1.getOwn h1
  obtain rfl : p' = p := by rw [e1] at e2; injection e2 with e2; injection e2 with e2; injection e2 with e2; exact e2.symm
  obtain rfl := mug_rp.mp hr1
  refine ⟨p', x, k, ys, Hk1, ds, by rw [List.append_nil], hk1, hp1, ok, cap, A1.sub, r1, _, hS, fun y d x' Hk' H2' hP ok' s hn hl T' r' => ?_⟩
  obtain ⟨A2, T2⟩ := A1.afterM h1 e1 s T' hn hl (mug_rp.mpr rfl)
  exact q y d _ Hk' H2' (hP x' ok') A2 (T1.trans T2) r'
end
/-! ### statements that leave the first slot -/
section
variable (K : PySem.W.Frag)
def wS0 (t : TS) (ρ : Env) (E : De) : Prop := ∀ σ Hk H2 (F : Ends), At K ρ σ Hk H2 →
  (∀ ρ' σ' Hk' H2', E.nx ρ' → At K ρ' σ' Hk' H2' → Tr (Own ρ σ) Hk H2 (Own ρ' σ') Hk' H2' → σ'[0]? = σ[0]? → F.nx σ' H2') →
  (∀ y d ρ' σ' Hk' H2', E.rt d ρ' → At K ρ' σ' Hk' H2' → Tr (Own ρ σ) Hk H2 (Own ρ' σ') Hk' H2' → σ'[0]? = σ[0]? → Rp K Hk' d y → F.rt y H2') →
  (∀ ρ' σ' Hk' H2', E.bk ρ' → At K ρ' σ' Hk' H2' → Tr (Own ρ σ) Hk H2 (Own ρ' σ') Hk' H2' → σ'[0]? = σ[0]? → F.bk σ' H2') →
  (∀ ρ' σ' Hk' H2', E.ct ρ' → At K ρ' σ' Hk' H2' → Tr (Own ρ σ) Hk H2 (Own ρ' σ') Hk' H2' → σ'[0]? = σ[0]? → F.ct σ' H2') → t F σ H2
end
section
variable {K : PySem.W.Frag} {ρ : Env} {P : PD} {E : De} {te ta : TE} {t u : TS} {c : TT}
theorem wS0.use {σ : L2.St} {Hk H2 : Hp} {F : Ends} {O : Addr → Prop} {Hk0 H0 : Hp} {s0 : Option (Option V)} (h : wS0 K t ρ E) (A : At K ρ σ Hk H2) (T : Tr O Hk0 H0 (Own ρ σ) Hk H2) (z : σ[0]? = s0)
    (n : ∀ ρ' σ' Hk' H2', E.nx ρ' → At K ρ' σ' Hk' H2' → Tr O Hk0 H0 (Own ρ' σ') Hk' H2' → σ'[0]? = s0 → F.nx σ' H2')
    (r : ∀ y d ρ' σ' Hk' H2', E.rt d ρ' → At K ρ' σ' Hk' H2' → Tr O Hk0 H0 (Own ρ' σ') Hk' H2' → σ'[0]? = s0 → Rp K Hk' d y → F.rt y H2')
    (b : ∀ ρ' σ' Hk' H2', E.bk ρ' → At K ρ' σ' Hk' H2' → Tr O Hk0 H0 (Own ρ' σ') Hk' H2' → σ'[0]? = s0 → F.bk σ' H2')
    (k : ∀ ρ' σ' Hk' H2', E.ct ρ' → At K ρ' σ' Hk' H2' → Tr O Hk0 H0 (Own ρ' σ') Hk' H2' → σ'[0]? = s0 → F.ct σ' H2') : t F σ H2 :=
  h σ Hk H2 F A (fun ρ' σ' Hk' H2' p A' T' y => n ρ' σ' Hk' H2' p A' (T.trans T') (y.trans z)) (fun y d ρ' σ' Hk' H2' p A' T' w => r y d ρ' σ' Hk' H2' p A' (T.trans T') (w.trans z))
    (fun ρ' σ' Hk' H2' p A' T' y => b ρ' σ' Hk' H2' p A' (T.trans T') (y.trans z)) (fun ρ' σ' Hk' H2' p A' T' y => k ρ' σ' Hk' H2' p A' (T.trans T') (y.trans z))
theorem m_seq (h : wS0 K t ρ ⟨fun ρ1 => wS0 K u ρ1 E, E.rt, E.bk, E.ct⟩) : wS0 K (tSeq t u) ρ E := fun σ Hk H2 F A n r b k =>
  h σ Hk H2 _ A (fun ρ1 σ1 Hk1 H21 p A1 T1 z => wS0.use (F := F) p A1 T1 z n r b k) r b k
theorem m_next (p : E.nx ρ) : wS0 K tNext ρ E := fun σ Hk H2 F A n r b k => n ρ σ Hk H2 p A .refl rfl
theorem m_ret (h : wE K te ρ E.rt) : wS0 K (tRet te) ρ E := fun σ Hk H2 F A n r b k => h σ Hk H2 A _ fun y d ρ1 Hk1 H21 p A1 T1 r1 => r y d ρ1 σ Hk1 H21 p A1 T1 rfl r1
theorem m_ifS (h : wT K c ρ fun b ρ1 => if b = true then wS0 K t ρ1 E else wS0 K u ρ1 E) : wS0 K (tIfS c t u) ρ E := fun σ Hk H2 F A n r b k => h σ Hk H2 A _ fun x ρ1 Hk1 H21 p A1 T1 => by
  cases x with
  | true => exact wS0.use (show wS0 K t ρ1 E from p) A1 T1 rfl n r b k
  | false => exact wS0.use (show wS0 K u ρ1 E from p) A1 T1 rfl n r b k
theorem get0 {σ : L2.St} {i : Nat} {y : Option V} (h : i ≠ 0) : (σ.set i y)[0]? = σ[0]? := List.getElem?_set_ne h
theorem m_asg {js : List Nat} {g : TG} (hj : 0 ∉ js) (h : wE K te ρ fun d ρ1 => wG K js g d ρ1 E.nx) : wS0 K (tAsg te g) ρ E := fun σ Hk H2 F A n r b k =>
  h σ Hk H2 A _ fun y d ρ1 Hk1 H21 p A1 T1 r1 => p σ Hk1 H21 y A1 r1 _ fun ρ2 σ2 Hk2 H22 p2 A2 T2 w => n ρ2 σ2 Hk2 H22 p2 A2 (T1.trans T2) (wipe_eq w hj)
theorem m_set {i : Nat} (hi : i ≠ 0) (h : wE K te ρ fun d ρ1 => E.nx (ρ1.set i (.dat d))) : wS0 K (tAsg te (gName i)) ρ E := m_asg (js := [i]) (fun z => hi (List.mem_singleton.mp z).symm) (h.mono fun d ρ1 p => g_name (List.mem_cons_self) p)
theorem m_par {i j : Nat} {ta : TA} (hi : i ≠ 0) (hj : j ≠ 0) (h : wA K ta ρ fun ds ρ1 => ∃ d e, ds = [d, e] ∧ E.nx ((ρ1.set i (.dat d)).set j (.dat e))) : wS0 K (tPar i j ta) ρ E := fun σ Hk H2 F A n r b k =>
  h σ Hk H2 A _ fun ys ds ρ1 Hk1 H21 ⟨d, e, e1, p⟩ A1 T1 r1 => by
    subst e1
    obtain ⟨y, ys, rfl, r2, z, zs, rfl, r3, hn⟩ := r1
    obtain rfl : zs = [] := hn
    exact ⟨y, z, rfl, n _ _ Hk1 H21 p ((A1.set r2).set r3) (T1.lose fun a h => own_set (own_set h)) ((get0 hj).trans (get0 hi))⟩
/-- x, y, z = e, f, [] -/
theorem m_par3Own {i j l : Nat} {tb : TE} (hi : i ≠ 0) (hj : j ≠ 0) (hl : l ≠ 0) (h : wE K ta ρ fun d ρ1 => wE K tb ρ1 fun e ρ2 => E.nx (((ρ2.set i (.dat d)).set j (.dat e)).set l (.own []))) : wS0 K (tPar3 i j l (tCons ta (tCons tb (tCons (tLst tNil) tNil)))) ρ E := fun σ Hk H2 F A n r b k =>
  h σ Hk H2 A _ fun y d ρ1 Hk1 H21 p A1 T1 r1 => p σ Hk1 H21 A1 _ fun z e ρ2 Hk2 H22 p2 A2 T2 r2 => ⟨Nat.zero_le _, fun a ha => ⟨y, z, .ref a, rfl, n _ _ Hk2 _ p2 (((A2.set (r1.mono T2.ex)).set r2).setOwn ha rfl) (((T1.trans T2).lose fun a h => own_set (own_set h)).trans (tr_setOwn ha)) ((get0 hl).trans ((get0 hj).trans (get0 hi)))⟩⟩
/-- x = [..], a list that will be changed -/
theorem m_setOwn {i : Nat} {ta : TA} (hi : i ≠ 0) (h : wA K ta ρ fun ds ρ1 => ds.length ≤ 100000 ∧ E.nx (ρ1.set i (.own ds))) : wS0 K (tAsg (tLst ta) (gName i)) ρ E := fun σ Hk H2 F A n r b k =>
  h σ Hk H2 A _ fun ys ds ρ1 Hk1 H21 ⟨hl, p⟩ A1 T1 r1 => ⟨by rw [r1.length]; exact Nat.le_trans hl (by decide), fun a ha => n _ _ Hk1 _ p (A1.setOwn ha r1) (T1.trans (tr_setOwn ha)) (get0 hi)⟩
/-- a statement that has been shown to leave all slots -/
theorem m_append {i : Nat} {ds0 : List D} (h0 : ρ[i]? = some (.own ds0)) (h : wE K te ρ fun d ρ1 => ∃ ds, ρ1[i]? = some (.own ds) ∧ ds.length < 100000 ∧ E.nx (ρ1.set i (.own (ds ++ [d])))) :
    wS0 K (tDrop (tBM K "list" rAppend (tVar i) (tCons te tNil))) ρ E := fun σ Hk H2 F A n r b k => by
  obtain ⟨p, xs, e1, hk, hp, hr⟩ := A.getOwn h0
  refine ⟨.ref p, e1, .inl ⟨rfl, xs, .inl (.inl hp)⟩, h σ Hk H2 A _ fun y d ρ1 Hk1 H21 ⟨ds, h1, hl, p1⟩ A1 T1 r1 => ?_⟩
  obtain ⟨p', ys, e2, hk1, hp1, hr1⟩ := A1.getOwn h1
  obtain rfl : p' = p := by rw [e1] at e2; injection e2 with e2; injection e2 with e2; injection e2 with e2; exact e2.symm
  obtain ⟨A2, T2⟩ := A1.write h1 e1 (hr1.app (RpL.one r1))
  exact ⟨p', ys, y, rfl, rfl, hp1, by rw [hr1.length]; exact Nat.lt_of_lt_of_le hl (by decide), n _ σ Hk1 _ p1 A2 (T1.trans T2) rfl⟩
/-- a for -/
def ForM (K : PySem.W.Frag) (g : TG) (t : TS) (E : De) (ds : List D) (ρ1 : Env) : Prop := ∃ (js : List Nat) (Pv : Nat → Env → Prop), 0 ∉ js ∧ Pv 0 ρ1 ∧
  (∀ i d ρ2, ds[i]? = some d → Pv i ρ2 → wG K js g d ρ2 fun ρ3 => wS0 K t ρ3 ⟨Pv (i + 1), E.rt, E.nx, Pv (i + 1)⟩) ∧ ∀ ρ2, Pv ds.length ρ2 → E.nx ρ2
theorem m_for {wi : TI} {g : TG} (h : wI K wi ρ (ForM K g t E)) : wS0 K (tFor wi g t) ρ E := fun σ Hk H2 F A n r b k =>
  h σ Hk H2 A _ fun J ds ρ1 Hk1 H21 ⟨js, Pv, hj, h0, hs, hd⟩ A1 T1 G => by
    refine ⟨fun i m σ' H' => m = ds.length - i ∧ i ≤ ds.length ∧ ∃ ρ2 Hk2, Pv i ρ2 ∧ At K ρ2 σ' Hk2 H' ∧ Tr (Own ρ1 σ) Hk1 H21 (Own ρ2 σ') Hk2 H' ∧ σ'[0]? = σ[0]?, ⟨ds.length, by simp, Nat.zero_le _, ρ1, Hk1, h0, A1, .refl, rfl⟩, ?_⟩
    rintro i m σ' H' ⟨rfl, hi, ρ2, Hk2, hp, A2, T2, z2⟩
    by_cases hlt : i < ds.length
    · refine .inr ⟨G.go i H' hlt (T2.ex.trans A2.sub), fun σ' H' => i + 1 ≤ ds.length ∧ ∃ ρ2 Hk2, Pv (i + 1) ρ2 ∧ At K ρ2 σ' Hk2 H' ∧ Tr (Own ρ1 σ) Hk1 H21 (Own ρ2 σ') Hk2 H' ∧ σ'[0]? = σ[0]?, fun σ'' H'' z => ⟨ds.length - (i + 1), by omega, rfl, z⟩, fun x H'' hy => ?_⟩
      obtain ⟨Hk3, s1, s2, k1, n1, rx⟩ := G.yld i H' x H'' Hk2 _ (List.getElem?_eq_getElem hlt) T2.ex A2.sub hy
      have A3 : At K ρ2 σ' Hk3 H'' := A2.grow s1 s2 k1 n1
      have T3 : Tr (Own ρ2 σ') Hk2 H' (Own ρ2 σ') Hk3 H'' := ⟨s1, fun a o h _ => k1 a o h, fun a h => (n1 a h).imp id .inl, fun a h => .inl h⟩
      refine hs i _ ρ2 (List.getElem?_eq_getElem hlt) hp σ' Hk3 H'' x A3 rx _ fun ρ3 σ3 Hk4 H4 h4 A4 T4 w4 => ?_
      have TT := (T2.trans T3).trans T4
      have z3 : σ3[0]? = σ[0]? := (wipe_eq w4 hj).trans z2
      exact wS0.use (F := { F with nx := _, ct := _, bk := F.nx }) h4 A4 TT z3 (fun ρ5 σ5 Hk5 H5 p A5 T5 z5 => ⟨hlt, ρ5, Hk5, p, A5, T5, z5⟩) (fun y d ρ5 σ5 Hk5 H5 p A5 T5 z5 r5 => r y d ρ5 σ5 Hk5 H5 p A5 (T1.trans T5) z5 r5)
        (fun ρ5 σ5 Hk5 H5 p A5 T5 z5 => n ρ5 σ5 Hk5 H5 p A5 (T1.trans T5) z5) (fun ρ5 σ5 Hk5 H5 p A5 T5 z5 => ⟨hlt, ρ5, Hk5, p, A5, T5, z5⟩)
    · have e : i = ds.length := by omega
      subst e
      exact .inl ⟨G.stop H' (T2.ex.trans A2.sub), n ρ2 σ' Hk2 H' (hd ρ2 hp) A2 (T1.trans T2) z2⟩
end
/-! ### THE RULE for such a def -/
def envM (N : List Str) (x : Mg) (ds : List D) : Env := .own (mugD x) :: (ds.map Sl.dat ++ List.replicate (N.length - (ds.length + 1)) .any)
theorem envM_own {N : List Str} {x : Mg} {ds : List D} {i : Nat} {es : List D} (h : (envM N x ds)[i]? = some (.own es)) : i = 0 ∧ es = mugD x := by
  cases i with
  | zero =>
    have h' : some (Sl.own (mugD x)) = some (.own es) := h
    injection h' with h'
    injection h' with h'
    exact ⟨rfl, h'.symm⟩
  | succ i =>
    exfalso
    have h' : (ds.map Sl.dat ++ List.replicate (N.length - (ds.length + 1)) .any)[i]? = some (.own es) := h
    by_cases q : i < ds.length
    · rw [List.getElem?_append_left (by rw [List.length_map]; exact q), List.getElem?_map, List.getElem?_eq_getElem q] at h'
      exact nomatch h'
    · rw [List.getElem?_append_right (by rw [List.length_map]; omega)] at h'
      exact nomatch (List.eq_of_mem_replicate (List.mem_of_getElem? h'))
theorem start_zero (N : List Str) (v : V) (vs : List V) : (L2.start N (v :: vs))[0]? = some (some v) := rfl
theorem at_startM {K : PySem.W.Frag} {N : List Str} {Hk H1 : Hp} {x : Mg} {p : Addr} {ds : List D} {vs : List V} (s : Same Hk H1) (hk : Hk p = none) (hp : H1 p = some (.lst (mugV x))) (r : RpL K Hk ds vs) : At K (envM N x ds) (L2.start N (.ref p :: vs)) Hk H1 := by
  have hl := r.length
  refine ⟨s, ?_, fun i t o h1 h2 => ?_, fun i j p es fs h1 _ h3 _ => ((envM_own h1).1).trans (envM_own h3).1.symm⟩
  · unfold envM L2.start
    rw [List.length_cons, List.length_append, List.length_append, List.length_map, List.length_map, List.length_replicate, List.length_replicate, List.length_cons, hl]
    omega
  · cases i with
    | zero =>
      have h1' : some (Sl.own (mugD x)) = some t := h1
      have h2' : some (some (V.ref p)) = some o := h2
      obtain rfl := Option.some.inj h1'
      obtain rfl := Option.some.inj h2'
      exact ⟨p, _, rfl, hk, hp, mug_rp.mpr rfl⟩
    | succ i =>
      have h1' : (ds.map Sl.dat ++ List.replicate (N.length - (ds.length + 1)) .any)[i]? = some t := h1
      have h2' : (vs.map some ++ List.replicate (N.length - (vs.length + 1)) none)[i]? = some o := h2
      by_cases q : i < ds.length
      · rw [List.getElem?_append_left (by rw [List.length_map]; exact q), List.getElem?_map, List.getElem?_eq_getElem q] at h1'
        obtain rfl := Option.some.inj h1'
        obtain ⟨y, h3, h4⟩ := r.get (List.getElem?_eq_getElem q)
        rw [List.getElem?_append_left (by rw [List.length_map]; omega), List.getElem?_map, h3] at h2'
        obtain rfl := Option.some.inj h2'
        exact ⟨y, rfl, h4⟩
      · rw [List.getElem?_append_right (by rw [List.length_map]; omega)] at h1'
        have h3 := List.eq_of_mem_replicate (List.mem_of_getElem? h1')
        subst h3
        trivial
section
variable {Pr : Program} {w : World} {K : PySem.W.Frag} {mg : Str → Option Value} {base : Heap}
/-- what stands in the end -/
def MugEnd (c : Nat) (P : D → Prop) (d : D) (ρ : Env) : Prop := ∃ x, ρ[0]? = some (.own (mugD x)) ∧ MugOk x c ∧ P d
theorem okDM {x qual : Str} {st : Stmt} {f : Addr} {fd : FuncData} {N ps : List Str} {k c : Nat} {S : PS1} (F : Fun K x qual st f fd) (sc : FnScope N ps (defScope st)) (hlen : ∀ ds P, S ds P → ds.length + 1 = ps.length)
    (body : ∀ (cdv : Value) (A : Around) (outer : List PySem.Env) (s : Shared) (H : Hp) (E : XK), Room k (A.deeper (envOfC qual (defScope st) s.heap.objs.size f cdv)) →
      ∃ t, PSs (cxOf CX0 Pr w K mg base N qual (defScope st) f cdv A outer s H E).nox (defBody st) t ∧ ∀ x kk ds P, MugOk x kk → kk + c ≤ mugCap → S ds P → wS0 K t (envM N x ds) ⟨MugEnd (kk + c) P .non, MugEnd (kk + c) P, fun _ => False, fun _ => False⟩) :
    FnOk Pr w K mg base CX0 (k + 1) f fd ps (spM K c S) := by
  refine F.ok sc (fun vs H Q E h => ?_) (fun cdv A outer s H vs Q E hr h => ?_)
  · obtain ⟨p, x, k, rest, Hk, ds, rfl, hk, hp, ok, cap, s, r, P, hS, _⟩ := h
    rw [List.length_cons, r.length]
    exact hlen ds P hS
  · obtain ⟨p, x, kk, rest, Hk, ds, rfl, hk, hp, ok, cap, s1, r, P, hS, q⟩ := h
    obtain ⟨t, h1, h2⟩ := body cdv A outer s H E hr
    have ow : ∀ a, Own (envM N x ds) (L2.start N (.ref p :: rest)) a ↔ a = p := fun a => by
      constructor
      · rintro ⟨i, es, g1, g2⟩
        obtain ⟨rfl, _⟩ := envM_own g1
        rw [start_zero] at g2
        injection g2 with g2; injection g2 with g2; injection g2 with g2
        exact g2.symm
      · rintro rfl
        exact ⟨0, mugD x, rfl, start_zero _ _ _⟩
    have fin : ∀ y d ρ' σ' Hk' H2', MugEnd (kk + c) P d ρ' → At K ρ' σ' Hk' H2' → Tr (Own (envM N x ds) (L2.start N (.ref p :: rest))) Hk H (Own ρ' σ') Hk' H2' → σ'[0]? = (L2.start N (.ref p :: rest))[0]? → Rp K Hk' d y → Q y H2' := fun y d ρ' σ' Hk' H2' ⟨x', g1, ok', hP⟩ A' T' z r' => by
      obtain ⟨p', xs, e1, hk1, hp1, hr1⟩ := A'.getOwn g1
      rw [z, start_zero] at e1
      injection e1 with e1; injection e1 with e1; injection e1 with e1
      subst e1
      obtain rfl := mug_rp.mp hr1
      exact q y d x' Hk' H2' hP ok' A'.sub hk1 hp1 ⟨T'.ex, fun a o h n => T'.fro a o h fun w => n ((ow a).mp w), fun a h => (T'.new a h).imp id fun w => w.imp id (ow a).mp, fun a h => .inl h⟩ r'
    refine ⟨t, h1, h2 x kk ds P ok cap hS (L2.start N (.ref p :: rest)) Hk H { nx := fun _ H' => Q .non H', rt := Q } (at_startM s1 hk hp r) (fun ρ' σ' Hk' H2' p A' T' z => fin _ _ _ _ _ _ p A' T' z rfl) (fun y d ρ' σ' Hk' H2' p A' T' z r' => fin _ _ _ _ _ _ p A' T' z r') (fun _ _ _ _ z => z.elim) (fun _ _ _ _ z => z.elim)⟩
end
end Dl
set_option Elab.async false
set_option linter.all false
set_option maxRecDepth 100000
set_option maxHeartbeats 4200000
/-! Comprehensions of two clauses. -/
namespace Dl
open PySem PySem.Spec PyProof.Rows L2 StX
section
variable {K : PySem.W.Frag} {ρ : Env} {P : PD}
theorem wipe_in {σ : L2.St} {vs : List Nat} {i : Nat} (h : i ∈ vs) : (wipe σ vs)[i]? = if i < σ.length then some none else none := by
  by_cases hj : i < σ.length
  · rw [if_pos hj]
    cases z2 : (wipe σ vs)[i]? with
    | none =>
      rw [List.getElem?_eq_none_iff, wipe_length] at z2
      omega
    | some o =>
      cases o with
      | none => rfl
      | some v => exact absurd h (wipe_some z2).2
  · rw [if_neg hj]
    exact List.getElem?_eq_none (by rw [wipe_length]; omega)
theorem wipe_sub {σ : L2.St} {vs vs1 : List Nat} (h : ∀ i ∈ vs1, i ∈ vs) : wipe (wipe σ vs1) vs = wipe σ vs := by
  refine List.ext_getElem? fun j =>
      ?_
  by_cases q : j ∈ vs
  · rw [wipe_in q, wipe_in q, wipe_length]
  · rw [wipe_out q, wipe_out q, wipe_out fun z => q (h j z)]
theorem wipeS_sub {ρ : Env} {vs vs1 : List Nat} (h : ∀ i ∈ vs1, i ∈ vs) : wipeS (wipeS ρ vs1) vs = wipeS ρ vs := by
  refine List.ext_getElem? fun j =>
      ?_
  by_cases q : j ∈ vs
  · rw [wipeS_in q, wipeS_in q, wipeS_len]
  · rw [wipeS_out q, wipeS_out q, wipeS_out fun z => q (h j z)]
def accs (f : Nat → List D) (i : Nat) : List D := (List.range i).flatMap f
theorem accs_succ (f : Nat → List D) (i : Nat) : accs f (i + 1) = accs f i ++ f i := by
  unfold accs
  rw [List.range_succ, List.flatMap_append]
  simp
/-- what each item of the first clause makes -/
def Lc2D (K : PySem.W.Frag) (g : TG) (tt : TT) (wi1 : TI) (g1 : TG) (tt1 : TT) (te : TE) (vs vs1 : List Nat) (P : PD) (ds : List D) (ρ1 : Env) : Prop := ∃ f : Nat → List D, (∀ i, i ≤ ds.length → (accs f i).length ≤ 50000) ∧ (∀ i, i < ds.length → (f i).length ≤ 1000) ∧ wipeS ρ1 vs = ρ1 ∧ (∀ i ∈ vs1, i ∈ vs) ∧
  (∀ (i : Nat) d, ds[i]? = some d → wG K vs g d ρ1 fun ρ3 => wT K tt ρ3 fun b ρ4 => b = true ∧ wI K wi1 ρ4 fun ds1 ρ5 => ds1.length = (f i).length ∧ wipeS ρ5 vs = ρ1 ∧
    ∀ (j : Nat) d1 e, ds1[j]? = some d1 → (f i)[j]? = some e → wG K vs1 g1 d1 (wipeS ρ5 vs1) fun ρ6 => wT K tt1 ρ6 fun b ρ7 => b = true ∧ wE K te ρ7 fun e' ρ8 => e' = e ∧ wipeS ρ8 vs1 = wipeS ρ5 vs1) ∧
  P (.lst (accs f ds.length)) ρ1
theorem w_lc2 {wi wi1 : TI} {g g1 : TG} {tt tt1 : TT} {te : TE} {vs vs1 : List Nat} (hi : wI K wi ρ (Lc2D K g tt wi1 g1 tt1 te vs vs1 P)) : wE K (tLc2 wi g tt wi1 g1 tt1 te vs vs1) ρ P := fun σ Hk H2 A Q q =>
  hi σ Hk H2 A _ fun J ds ρ1 Hk1 H21 ⟨f, hn, hf, hw, hv, hs, hd⟩ A1 T1 G Dl hD => by
    have hDk := A1.free hD
    have hDo := A1.notOwn hD
    refine ⟨fun i m H => m = ds.length - i ∧ i ≤ ds.length ∧ ∃ Hk2 xs, At K ρ1 σ Hk2 H ∧ Tr (Own ρ1 σ) Hk1 H21 (Own ρ1 σ) Hk2 H ∧ Hk2 Dl = none ∧ H Dl = some (.lst xs) ∧ RpL K Hk2 (accs f i) xs,
      ⟨ds.length, by simp, Nat.zero_le _, Hk1, [], A1.hid _ hD, ⟨Same.refl _, fun a o h _ => by rw [upd_ne (ne_of_none h hD)]; exact h, fun a h => .inl h, fun a h => .inl h⟩, hDk, upd_same, rfl⟩, ?_⟩
    rintro i m H ⟨rfl, hi, Hk2, xs, A2, T2, hk, hx, hr⟩
    by_cases hlt : i < ds.length
    · refine .inr ⟨G.go i H hlt (T2.ex.trans A2.sub), fun H' => i + 1 ≤ ds.length ∧ ∃ Hk2 xs, At K ρ1 σ Hk2 H' ∧ Tr (Own ρ1 σ) Hk1 H21 (Own ρ1 σ) Hk2 H' ∧ Hk2 Dl = none ∧ H' Dl = some (.lst xs) ∧ RpL K Hk2 (accs f (i + 1)) xs, fun H' h => ⟨ds.length - (i + 1), by omega, rfl, h⟩, fun x H' hy => ?_⟩
      obtain ⟨Hk3, s1, s2, k1, n1, rx⟩ := G.yld i H x H' Hk2 _ (List.getElem?_eq_getElem hlt) T2.ex A2.sub hy
      have A3 : At K ρ1 σ Hk3 H' := A2.grow s1 s2 k1 n1
      have T3 : Tr (Own ρ1 σ) Hk2 H (Own ρ1 σ) Hk3 H' := ⟨s1, fun a o h _ => k1 a o h, fun a h => (n1 a h).imp id .inl, fun a h => .inl h⟩
      have A4 : At K ρ1 (wipe σ vs) Hk3 H' := by
        have z := At.wipe vs A3
        rw [hw] at z
        exact z
      have ow : ∀ a, Own ρ1 (wipe σ vs) a → Own ρ1 σ a := fun a h => by
        have h' : Own (wipeS ρ1 vs) (wipe σ vs) a := by rw [hw]; exact h
        exact own_wipe h'
      have hDH' : H' Dl = some (.lst xs) := k1 _ _ hx
      have hk3 : Hk3 Dl = none := by
        cases z : Hk3 Dl with
        | none => rfl
        | some u =>
          rcases n1 Dl (by rw [z]; exact fun y => nomatch y) with y | y
          · exact absurd hk y
          · rw [hx] at y; exact nomatch y
      refine hs i _ (List.getElem?_eq_getElem hlt) (wipe σ vs) Hk3 H' x A4 rx _ fun ρ3 σ2 Hk4 H4 h4 A5 T5 w5 => ⟨w5.trans (wipe_wipe σ vs), ?_⟩
      have e2 : wipe σ2 vs = wipe σ vs := w5.trans (wipe_wipe σ vs)
      have T5' : Tr (Own ρ1 σ) Hk3 H' (Own ρ3 σ2) Hk4 H4 := ⟨T5.ex, fun a o h z => T5.fro a o h fun y => z (ow a y), fun a h => (T5.new a h).imp id fun z => z.imp id (ow a), fun a h => (T5.own a h).imp (ow a) id⟩
      have keepD : ∀ {O' : Addr → Prop} {Hk5 H5 : Hp}, Tr (Own ρ1 σ) Hk3 H' O' Hk5 H5 → H5 Dl = some (.lst xs) ∧ Hk5 Dl = none ∧ ¬ O' Dl := fun {O' Hk5 H5} T => by
        refine ⟨T.fro _ _ hDH' hDo, ?_, fun z => ?_⟩
        · cases z : Hk5 Dl with
          | none => rfl
          | some u =>
            rcases T.new Dl (by rw [z]; exact fun y => nomatch y) with y | y | y
            · exact absurd hk3 y
            · rw [hDH'] at y; exact nomatch y
            · exact absurd y hDo
        · rcases T.own Dl z with y | y
          · exact hDo y
          · rw [hDH'] at y; exact nomatch y
      refine h4 σ2 Hk4 H4 A5 _ fun b ρ4 Hk5 H5 ⟨eb, h5⟩ A6 T6 => ?_
      subst eb
      rw [if_pos rfl]
      refine h5 σ2 Hk5 H5 A6 _ fun J1 ds1 ρ5 Hk6 H6 ⟨hl1, hw5, hs1⟩ A7 T7 G1 => ?_
      have TT : Tr (Own ρ1 σ) Hk3 H' (Own ρ5 σ2) Hk6 H6 := (T5'.trans T6).trans T7
      obtain ⟨k2, k3, k4⟩ := keepD TT
      have A8 : At K (wipeS ρ5 vs1) (wipe σ2 vs1) Hk6 H6 := At.wipe vs1 A7
      have TT' := TT.lose (O'' := Own (wipeS ρ5 vs1) (wipe σ2 vs1)) fun a h => own_wipe h
      refine ⟨fun j k H => k = ds1.length - j ∧ j ≤ ds1.length ∧ ∃ Hk7 ys, At K (wipeS ρ5 vs1) (wipe σ2 vs1) Hk7 H ∧ Same Hk6 Hk7 ∧ Tr (Own ρ1 σ) Hk1 H21 (Own (wipeS ρ5 vs1) (wipe σ2 vs1)) Hk7 H ∧ Hk7 Dl = none ∧ ¬ Own (wipeS ρ5 vs1) (wipe σ2 vs1) Dl ∧ H Dl = some (.lst ys) ∧ RpL K Hk7 (accs f i ++ (f i).take j) ys,
        ⟨ds1.length, by simp, Nat.zero_le _, Hk6, xs, A8, Same.refl _, (T2.trans T3).trans TT', k3, fun z => k4 (own_wipe z), k2, by rw [List.take_zero, List.append_nil]; exact hr.mono (s1.trans TT.ex)⟩, ?_⟩
      rintro j k H7 ⟨rfl, hj, Hk7, ys, A9, s7, T9, hk7, ho7, hy7, hr7⟩
      by_cases hltj : j < ds1.length
      · refine .inr ⟨G1.go j H7 hltj (s7.trans A9.sub), fun H' => j + 1 ≤ ds1.length ∧ ∃ Hk7 ys, At K (wipeS ρ5 vs1) (wipe σ2 vs1) Hk7 H' ∧ Same Hk6 Hk7 ∧ Tr (Own ρ1 σ) Hk1 H21 (Own (wipeS ρ5 vs1) (wipe σ2 vs1)) Hk7 H' ∧ Hk7 Dl = none ∧ ¬ Own (wipeS ρ5 vs1) (wipe σ2 vs1) Dl ∧ H' Dl = some (.lst ys) ∧ RpL K Hk7 (accs f i ++ (f i).take (j + 1)) ys, fun H' h => ⟨ds1.length - (j + 1), by omega, rfl, h⟩, fun x1 H8 hy1 => ?_⟩
        obtain ⟨Hk8, s8, s9, k8, n8, rx1⟩ := G1.yld j H7 x1 H8 Hk7 _ (List.getElem?_eq_getElem hltj) s7 A9.sub hy1
        have A10 : At K (wipeS ρ5 vs1) (wipe σ2 vs1) Hk8 H8 := A9.grow s8 s9 k8 n8
        have T10 : Tr (Own (wipeS ρ5 vs1) (wipe σ2 vs1)) Hk7 H7 (Own (wipeS ρ5 vs1) (wipe σ2 vs1)) Hk8 H8 := ⟨s8, fun a o h _ => k8 a o h, fun a h => (n8 a h).imp id .inl, fun a h => .inl h⟩
        have hy8 : H8 Dl = some (.lst ys) := k8 _ _ hy7
        have hk8 : Hk8 Dl = none := by
          cases z : Hk8 Dl with
          | none => rfl
          | some u =>
            rcases n8 Dl (by rw [z]; exact fun y => nomatch y) with y | y
            · exact absurd hk7 y
            · rw [hy7] at y; exact nomatch y
        have hjf : j < (f i).length := by omega
        refine hs1 j _ (f i)[j] (List.getElem?_eq_getElem hltj) (List.getElem?_eq_getElem hjf) (wipe σ2 vs1) Hk8 H8 x1 A10 rx1 _ fun ρ6 σ3 Hk9 H9 h9 A11 T11 w11 => ⟨w11.trans (wipe_wipe σ2 vs1), ?_⟩
        refine h9 σ3 Hk9 H9 A11 _ fun b ρ7 Hk10 H10 ⟨eb, h10⟩ A12 T12 => ?_
        subst eb
        rw [if_pos rfl]
        refine h10 σ3 Hk10 H10 A12 _ fun y e' ρ8 Hk11 H11 ⟨ee, hw8⟩ A13 T13 r13 => ?_
        subst ee
        have U : Tr (Own (wipeS ρ5 vs1) (wipe σ2 vs1)) Hk8 H8 (Own ρ8 σ3) Hk11 H11 := (T11.trans T12).trans T13
        have hy11 : H11 Dl = some (.lst ys) := U.fro _ _ hy8 ho7
        have hk11 : Hk11 Dl = none := by
          cases z : Hk11 Dl with
          | none => rfl
          | some u =>
            rcases U.new Dl (by rw [z]; exact fun y => nomatch y) with y | y | y
            · exact absurd hk8 y
            · rw [hy8] at y; exact nomatch y
            · exact absurd y ho7
        have A14 : At K (wipeS ρ8 vs1) (wipe σ2 vs1) Hk11 H11 := A13.unwipe w11
        rw [hw8] at A14
        have T14 : Tr (Own ρ1 σ) Hk1 H21 (Own ρ8 σ3) Hk11 H11 := (T9.trans T10).trans U
        have T15 := T14.lose (O'' := Own (wipeS ρ8 vs1) (wipe σ2 vs1)) fun a h => own_unwipe w11 h
        rw [hw8] at T15
        have hlen : ys.length < sizeLine := by
          rw [hr7.length, List.length_append]
          have h1 := hn i (Nat.le_of_lt hlt)
          have h2 := hf i hlt
          have h3 : ((f i).take j).length ≤ (f i).length := by rw [List.length_take]; omega
          exact Nat.lt_of_lt_of_le (show _ < 100000 by omega) (by decide)
        refine ⟨ys, hy11, hlen, hltj, Hk11, ys ++ [y], ?_, s7.trans (s8.trans U.ex), ?_, hk11, ho7, upd_same, ?_⟩
        · refine ⟨fun a o h => ?_, A14.len, fun l s o z1 z2 => ?_, A14.ds⟩
          · rw [upd_ne (fun z => by rw [z, hk11] at h; exact nomatch h)]
            exact A14.sub a o h
          · have z3 := A14.sl l s o z1 z2
            cases s with
            | any => trivial
            | dat d => exact z3
            | own es =>
              obtain ⟨p, zs, q1, q2, q3, q4⟩ := z3
              refine ⟨p, zs, q1, q2, ?_, q4⟩
              rw [upd_ne (fun z => ho7 ⟨l, es, z1, by rw [← z, ← q1]; exact z2⟩)]
              exact q3
        · refine ⟨T15.ex, fun a o h z => ?_, T15.new, T15.own⟩
          rw [upd_ne (fun y => by rw [y, hD] at h; exact nomatch h)]
          exact T15.fro a o h z
        · rw [List.take_add_one, List.getElem?_eq_getElem hjf, ← List.append_assoc]
          exact (hr7.mono (s8.trans U.ex)).app (RpL.one r13)
      · have e : j = ds1.length := by omega
        subst e
        refine .inl ⟨G1.stop H7 (s7.trans A9.sub), hlt, Hk7, ys, ?_, ?_, hk7, hy7, ?_⟩
        · have z := A9.unwipe (σ := σ) (vs := vs) ((wipe_sub hv).trans e2)
          rw [wipeS_sub hv, hw5] at z
          exact z
        · have z := T9.lose (O'' := Own (wipeS (wipeS ρ5 vs1) vs) σ) fun a h => own_unwipe ((wipe_sub hv).trans e2) h
          rw [wipeS_sub hv, hw5] at z
          exact z
        · rw [accs_succ]
          rw [hl1, List.take_length] at hr7
          exact hr7
    · have e : i = ds.length := by omega
      subst e
      refine .inl ⟨G.stop H (T2.ex.trans A2.sub), ?_⟩
      have s1 : Same Hk2 (upd Hk2 Dl (.lst xs)) := fun a u h => by rw [upd_ne (ne_of_none h hk)]; exact h
      have n1 : ∀ a, upd Hk2 Dl (.lst xs) a ≠ none → Hk2 a ≠ none ∨ a = Dl := fun a h => by
        by_cases z : a = Dl
        · exact .inr z
        · rw [upd_ne z] at h; exact .inl h
      have A9 : At K ρ1 σ (upd Hk2 Dl (.lst xs)) H := by
        refine ⟨fun a u h => ?_, A2.len, fun j s o z1 z2 => ?_, A2.ds⟩
        · by_cases z : a = Dl
          · subst z; rw [upd_same] at h; rw [hx]; exact h
          · rw [upd_ne z] at h; exact A2.sub a u h
        · have z3 := A2.sl j s o z1 z2
          cases s with
          | any => trivial
          | dat d =>
            obtain ⟨y, q1, q2⟩ := z3
            exact ⟨y, q1, q2.mono s1⟩
          | own es =>
            obtain ⟨p, zs, q1, q2, q3, q4⟩ := z3
            refine ⟨p, zs, q1, ?_, q3, q4.mono s1⟩
            rw [upd_ne (fun z => hDo ⟨j, es, z1, by rw [← z, ← q1]; exact z2⟩)]
            exact q2
      refine q (.ref Dl) (.lst (accs f ds.length)) ρ1 _ H hd A9 (T1.trans ⟨T2.ex.trans s1, T2.fro, fun a h => ?_, T2.own⟩) ⟨Dl, xs, rfl, upd_same, hr.mono s1⟩
      rcases n1 a h with z | z
      · exact T2.new a z
      · subst z
        exact .inr (.inl hD)
end
end Dl
set_option Elab.async false
set_option linter.all false
set_option maxRecDepth 100000
set_option maxHeartbeats 4200000
/-! What is known of slots may be forgotten. -/
namespace Dl
open PySem PySem.Spec PyProof.Rows L2 StX
def Wk : Env → Env → Prop
  | [], [] => True
  | s :: ρ, s' :: ρ' => (s' = .any ∨ s' = s) ∧ Wk ρ ρ'
  | _, _ => False
theorem Wk.len : ∀ {ρ ρ' : Env}, Wk ρ ρ' → ρ.length = ρ'.length
  | [], [], _ => rfl
  | s :: ρ, s' :: ρ', h => by rw [List.length_cons, List.length_cons, Wk.len h.2]
  | [], _ :: _, h => h.elim
  | _ :: _, [], h => h.elim
theorem Wk.get : ∀ {ρ ρ' : Env} {i : Nat} {s : Sl}, Wk ρ ρ' → ρ'[i]? = some s → s = .any ∨ ρ[i]? = some s
  | s :: ρ, s' :: ρ', 0, t, h, e => by
    obtain rfl : s' = t := by simpa using e
    rcases h.1 with z | z
    · exact .inl z
    · exact .inr (by rw [z]; rfl)
  | s :: ρ, s' :: ρ', i + 1, t, h, e => by
    rcases Wk.get (i := i) (s := t) h.2 (by simpa using e) with z | z
    · exact .inl z
    · exact .inr (by simpa using z)
  | [], [], _, _, _, e => by simp at e
  | [], _ :: _, _, _, h, _ => h.elim
  | _ :: _, [], _, _, h, _ => h.elim
section
variable {K : PySem.W.Frag} {ρ : Env} {P : PD} {E : De}
theorem At.wk {σ : L2.St} {Hk H2 : Hp} {ρ' : Env} (A : At K ρ σ Hk H2) (h : Wk ρ ρ') : At K ρ' σ Hk H2 := by
  refine ⟨A.sub, by rw [← h.len, A.len], fun i s o h1 h2 => ?_, fun i j p ds es h1 h2 h3 h4 => ?_⟩
  · rcases h.get h1 with z | z
    · subst z; trivial
    · exact A.sl i s o z h2
  · rcases h.get h1 with z | z
    · exact nomatch z
    · rcases h.get h3 with y | y
      · exact nomatch y
      · exact A.ds i j p ds es z h2 y h4
theorem own_wk {σ : L2.St} {ρ' : Env} {a : Addr} (h : Wk ρ ρ') (o : Own ρ' σ a) : Own ρ σ a := by
  obtain ⟨i, ds, h1, h2⟩ := o
  rcases h.get h1 with z | z
  · exact nomatch z
  · exact ⟨i, ds, z, h2⟩
theorem tr_wk {σ : L2.St} {Hk H2 : Hp} {ρ' : Env} (h : Wk ρ ρ') : Tr (Own ρ σ) Hk H2 (Own ρ' σ) Hk H2 := Tr.refl.lose fun a o => own_wk h o
theorem wS_env {t : TS} (ρ' : Env) (w : Wk ρ ρ') (h : wS K t ρ' E) : wS K t ρ E := fun σ Hk H2 F A n r b k => wS.use h (A.wk w) (tr_wk w) n r b k
theorem wE_env {t : TE} (ρ' : Env) (w : Wk ρ ρ') (h : wE K t ρ' P) : wE K t ρ P := fun σ Hk H2 A Q q => h σ Hk H2 (A.wk w) Q fun y d ρ1 Hk1 H21 p A1 T1 r1 => q y d ρ1 Hk1 H21 p A1 ((tr_wk w).trans T1) r1
theorem wS0_env {t : TS} (ρ' : Env) (w : Wk ρ ρ') (h : wS0 K t ρ' E) : wS0 K t ρ E := fun σ Hk H2 F A n r b k => wS0.use h (A.wk w) (tr_wk w) rfl n r b k
end
end Dl
set_option Elab.async false
set_option linter.all false
set_option maxRecDepth 100000
set_option maxHeartbeats 4200000
/-! The defs of fractions. -/
namespace Cs
open PySem PySem.Spec PyProof.Rows L2 StX Dl Mx
local macro_rules | `(tactic| walk_at "ev1") => `(tactic| first
  | refine w_seq ?_
  | refine w_next ?_
  | refine w_ret ?_
  | refine w_set ?_
  | refine w_par ?_
  | refine w_par3 ?_
  | refine w_drop ?_
  | refine w_ifS ?_
  | refine w_var rfl ?_
  | refine w_c ?_
  | refine w_cons ?_
  | refine w_nil ?_
  | refine w_tup ?_
  | refine w_lst ?_
  | refine w_neg ?_
  | refine w_if ?_
  | refine w_test ?_
  | refine w_B ?_
  | refine w_not ?_
  | refine w_notV ?_
  | refine w_and ?_
  | refine w_or ?_
  | refine w_andV ?_
  | refine w_orV ?_
  | refine w_op od_I0 ?_
  | refine w_op od_I ?_
  | refine w_op od_ix ?_
  | refine w_op od_ixL ?_
  | refine w_op od_ixT ?_
  | refine w_op od_eq ?_
  | refine w_op od_ne ?_
  | refine w_op od_isN ?_
  | refine w_op od_notN ?_
  | refine w_op od_cat ?_
  | refine w_op od_catA ?_
  | refine w_op od_rep ?_
  | refine w_op od_repN ?_
  | refine w_op od_eqD ?_
  | refine w_op od_neD ?_
  | refine w_op od_in ?_
  | refine w_op od_notInD ?_
  | refine w_slL ?_
  | refine w_slT ?_
  | refine w_noPart ?_
  | refine w_some ?_
  | refine w_call ?_
  | refine w_cb ca_len ?_
  | refine w_cb ca_len_str ?_
  | refine w_cb ca_list ?_
  | refine w_cb ca_tuple ?_
  | refine w_cb ca_abs ?_
  | refine w_cb ca_int ?_
  | refine w_cb ca_all ?_
  | refine w_cb ca_repr ?_
  | refine w_lc ?_
  | refine w_for ?_
  | refine i_list ?_
  | refine i_tup ?_
  | refine i_rng1 ?_
  | refine i_rng2 ?_
  | refine i_enum ?_
  | refine i_zip ?_
  | refine i_str ?_
  | refine ⟨Nat.le_of_ble_eq_true rfl, ?_⟩
  | refine ⟨_, rfl, ?_⟩
  | refine ⟨_, _, rfl, ?_⟩
  | refine ⟨_, _, _, rfl, ?_⟩
  | refine ⟨_, _, rfl, rfl, ?_⟩
  | refine ⟨_, _, _, rfl, rfl, rfl, ?_⟩)
local macro_rules | `(tactic| walk_at "ev") => `(tactic| repeat walk_at "ev1")
/-- what stops the steps -/
@[irreducible] def Stop (p : Prop) : Prop := p
theorem stop {p : Prop} (h : p) : Stop p := by unfold Stop; exact h
theorem Stop.go {p : Prop} (h : Stop p) : p := by unfold Stop at h; exact h
/-- a fraction -/
def fr (q : Rat) : D := .tup [.int q.num, .int q.den]
theorem fr_int (i : Int) : fr (i : Rat) = .tup [.int i, .int 1] := by
  unfold fr
  rw [Rat.num_intCast, Rat.den_intCast]
  rfl
theorem fr_zero : fr 0 = .tup [.int 0, .int 1] := rfl
theorem fr_one : fr 1 = .tup [.int 1, .int 1] := rfl
theorem ite_dec {p : Prop} [Decidable p] {A B : Prop} (h : p → A) (h2 : ¬ p → B) : if decide p = true then A else B := by
  by_cases q : p
  · rw [if_pos (decide_eq_true q)]; exact h q
  · rw [if_neg (by rw [decide_eq_false q]; exact Bool.false_ne_true)]; exact h2 q
theorem ite_true' {A B : Prop} (h : A) : if true = true then A else B := by rw [if_pos rfl]; exact h
theorem ite_false' {A B : Prop} (h : B) : if false = true then A else B := by rw [if_neg Bool.false_ne_true]; exact h
/-! ### promises -/
section
variable (K : PySem.W.Frag)
def S_common : PS1 := fun ds P => ∃ a b : Nat, ds = [.int a, .int b] ∧ P (.int (Nat.gcd a b : Nat))
def S_lowest : PS1 := fun ds P => ∃ (t : Int) (b : Nat), ds = [.int t, .int b] ∧ 0 < b ∧ b < 2 ^ 9000 ∧ P (fr (mkRat t b))
def S_times : PS1 := fun ds P => ∃ p q : Rat, ds = [fr p, fr q] ∧ sz 4000 p ∧ sz 4000 q ∧ P (fr (p * q))
def S_minus : PS1 := fun ds P => ∃ p q : Rat, ds = [fr p, fr q] ∧ sz 4000 p ∧ sz 4000 q ∧ P (fr (p - q))
def S_over : PS1 := fun ds P => ∃ p q : Rat, ds = [fr p, fr q] ∧ q ≠ 0 ∧ sz 4000 p ∧ sz 4000 q ∧ P (fr (p / q))
def S_is_above : PS1 := fun ds P => ∃ p q : Rat, ds = [fr p, fr q] ∧ sz 4000 p ∧ sz 4000 q ∧ P (.bl (decide (q < p)))
end
section
variable {Pr : Program} {w : World} {K : PySem.W.Frag} {mg : Str → Option Value} {base : Heap}
abbrev OkD (Pr : Program) (w : World) (K : PySem.W.Frag) (mg : Str → Option Value) (base : Heap) (k : Nat) (x : Str) (ps : List Str) (S : PS1) : Prop := Ok Pr w K mg base k x ps (spD K S)
theorem sc_common : FnScope ["one", "other"] ["one", "other"] (defScope s_common) := ⟨rfl, rfl, rfl, by decide +kernel, rfl, by decide +kernel, by decide +kernel⟩
theorem sc_lowest : FnScope ["top", "bottom", "shared"] ["top", "bottom"] (defScope s_lowest) := ⟨rfl, rfl, rfl, by decide +kernel, rfl, by decide +kernel, by decide +kernel⟩
theorem sc_times : FnScope ["one", "other"] ["one", "other"] (defScope s_times) := ⟨rfl, rfl, rfl, by decide +kernel, rfl, by decide +kernel, by decide +kernel⟩
theorem sc_minus : FnScope ["one", "other"] ["one", "other"] (defScope s_minus) := ⟨rfl, rfl, rfl, by decide +kernel, rfl, by decide +kernel, by decide +kernel⟩
theorem sc_is_above : FnScope ["one", "other"] ["one", "other"] (defScope s_is_above) := ⟨rfl, rfl, rfl, by decide +kernel, rfl, by decide +kernel, by decide +kernel⟩
theorem sc_over : FnScope ["one", "other"] ["one", "other"] (defScope s_over) := ⟨rfl, rfl, rfl, by decide +kernel, rfl, by decide +kernel, by decide +kernel⟩
theorem mul_wide {i j : Int} (h : i.natAbs < 2 ^ 8999) (h2 : j.natAbs < 2 ^ 8999) : CMulW i j := wide_mul h h2 (by omega) (by omega) (by omega)
theorem sz_num {e : Nat} {q : Rat} (h : sz e q) (he : e ≤ 8999 := by decide) : q.num.natAbs < 2 ^ 8999 := Nat.lt_of_lt_of_le h.2 (Nat.pow_le_pow_right (by omega) he)
theorem sz_den {e : Nat} {q : Rat} (h : sz e q) (he : e ≤ 8999 := by decide) : ((q.den : Nat) : Int).natAbs < 2 ^ 8999 := by rw [Int.natAbs_natCast]; exact Nat.lt_of_lt_of_le h.1 (Nat.pow_le_pow_right (by omega) he)
theorem ok_mk {x : Str} {st : Stmt} {N ps : List Str} {k : Nat} {S : PS1} (h : ∃ f fd, Fun K x x st f fd ∧ mg x = some (.ref f)) (sc : FnScope N ps (defScope st)) (hlen : ∀ ds P, S ds P → ds.length = ps.length)
    (body : ∀ (f : Addr) (cdv : Value) (A : Around) (outer : List PySem.Env) (s : Shared) (H : Hp) (E : XK), Room k (A.deeper (envOfC x (defScope st) s.heap.objs.size f cdv)) →
      ∃ t, PSs (cxOf CX0 Pr w K mg base N x (defScope st) f cdv A outer s H E).nox (defBody st) t ∧ ∀ ds P, S ds P → wS K t (envOf N ds) ⟨fun _ => P .non, fun d _ => P d, fun _ => False, fun _ => False⟩)
    (hb : ∀ (kV doc pm : Value) (an : Option Addr) (cdv ct : Value) (us : List Value), us.length = ps.length → bindArgs (PySem.W.fnOf x x (defArgs st) (defBody st) (defScope st) .none kV doc pm an cdv ct) ⟨us, []⟩ = pure (ps.zip us)) : Ok Pr w K mg base (k + 1) x ps (spD K S) := by
  obtain ⟨f, fd, F, hm⟩ := h
  exact ⟨f, fd, okD F sc hlen (fun cdv A outer s H E hr => body f cdv A outer s H E hr), F.binds hb, hm, F.kp⟩
theorem O_common (T : Tx K mg) : OkD Pr w K mg base 1 "common" ["one", "other"] S_common := by
  refine ok_mk T.f_common sc_common (fun ds P ⟨a, b, e, _⟩ => by rw [e]; rfl) (fun f cdv A outer s H E hr => ⟨_, 
    (pss_cons (ps_while PassesOwn.never (pt_cmpR op_gt (pv 1) pe_int (nomark _)) (pss_one (ps_par (i := 0) (j := 1) rfl sc_common.nd rfl rfl (by decide) rfl rfl (pa_cons (pv 1) (pa_cons (pe_op op_mod (pv 0) (pv 1)) pa_nil)) (by rfl))))
      (pss_one (ps_ret (pv 0)))),
    fun ds P ⟨a, b, e, p⟩ => ?_⟩) fun _ _ _ _ _ _ us hl => match us, hl with | [_, _], _ => rfl
  subst e
  refine w_seq (w_while (fun m ρ => Stop (∃ a' : Nat, ρ = [.dat (.int a'), .dat (.int m)] ∧ Nat.gcd a' m = Nat.gcd a b)) b (stop ⟨a, rfl, rfl⟩) fun m ρ hM => ?_)
  obtain ⟨a', e, hg⟩ := hM.go
  subst e
  walk_at "ev"
  refine ite_dec (fun h => ?_) (fun h => ?_)
  · walk_at "ev"
    refine ⟨by omega, ?_⟩
    walk_at "ev"
    refine ⟨a' % m, Nat.mod_lt _ (by omega), stop ⟨m, rfl, ?_⟩⟩
    · rw [← hg, Nat.gcd_comm m, ← Nat.gcd_rec, Nat.gcd_comm]
  · walk_at "ev"
    have e0 : m = 0 := by omega
    subst e0
    rw [Nat.gcd_zero_right] at hg
    rw [hg]
    exact p
theorem two_pow_le {a b : Nat} (h : a ≤ b) : 2 ^ a ≤ 2 ^ b := Nat.pow_le_pow_right (by omega) h
theorem O_lowest (T : Tx K mg) (O_common : OkD Pr w K mg base 1 "common" ["one", "other"] S_common) : OkD Pr w K mg base 2 "lowest" ["top", "bottom"] S_lowest := by
  refine ok_mk T.f_lowest sc_lowest (fun ds P ⟨a, b, e, _⟩ => by rw [e]; rfl) (fun f cdv A outer s H E hr => ⟨_, 
    (pss_cons (ps_setA (i := 2) sc_lowest.nd (pe_ok O_common (hr.mono (by decide)) (pa_cons (pe_callB call_abs rfl T.z_abs (by decide +kernel) (pa_cons (pv 0) pa_nil)) (pa_cons (pv 1) pa_nil))))
      (pss_one (ps_ret (pe_tup (pa_cons (pe_op op_fdivW (pv 0) (pv 2)) (pa_cons (pe_op op_fdivW (pv 1) (pv 2)) pa_nil)))))),
    fun ds P ⟨t, b, e, h0, hb, p⟩ => ?_⟩) fun _ _ _ _ _ _ us hl => match us, hl with | [_, _], _ => rfl
  subst e
  walk_at "ev"
  have hg : 0 < Nat.gcd t.natAbs b := Nat.gcd_pos_of_pos_right _ h0
  have hl : Nat.gcd t.natAbs b ≤ b := Nat.gcd_le_right _ h0
  have hc : ∀ i : Int, CDivW i (Nat.gcd t.natAbs b : Nat) := fun i => wide_div (b := 9000) (by omega) (by rw [Int.natAbs_natCast]; omega) (by omega) (by omega)
  refine ⟨hc _, ?_⟩
  walk_at "ev"
  refine ⟨hc _, ?_⟩
  walk_at "ev"
  have e : fr (mkRat t b) = .tup [.int (t / (Nat.gcd t.natAbs b : Nat)), .int ((b : Int) / (Nat.gcd t.natAbs b : Nat))] := by
    unfold fr
    rw [Rat.num_mkRat, Rat.den_mkRat, if_neg (by omega), if_neg (by omega), Nat.gcd_comm, Int.natCast_ediv]
  rw [← e]
  exact p
theorem O_times (T : Tx K mg) (O_lowest : OkD Pr w K mg base 2 "lowest" ["top", "bottom"] S_lowest) : OkD Pr w K mg base 3 "times" ["one", "other"] S_times := by
  refine ok_mk T.f_times sc_times (fun ds P ⟨a, b, e, _⟩ => by rw [e]; rfl) (fun f cdv A outer s H E hr => ⟨_, 
    (pss_one (ps_ret (pe_ok O_lowest (hr.mono (by decide)) (pa_cons (pe_op op_mulW (pe_ix ix_seq (pv 0) pe_int (fun _ _ => rfl)) (pe_ix ix_seq (pv 1) pe_int (fun _ _ => rfl))) (pa_cons (pe_op op_mulW (pe_ix ix_seq (pv 0) pe_int (fun _ _ => rfl)) (pe_ix ix_seq (pv 1) pe_int (fun _ _ => rfl))) pa_nil))))),
    fun ds P ⟨x, y, e, hx, hy, p⟩ => ?_⟩) fun _ _ _ _ _ _ us hl => match us, hl with | [_, _], _ => rfl
  subst e
  walk_at "ev"
  refine ⟨mul_wide (sz_num hx) (sz_num hy), ?_⟩
  walk_at "ev"
  refine ⟨mul_wide (sz_den hx) (sz_den hy), ?_⟩
  walk_at "ev"
  refine ⟨Nat.mul_pos x.den_pos y.den_pos, ?_, ?_⟩
  · have := Nat.mul_lt_mul'' hx.1 hy.1
    rw [← Nat.pow_add] at this
    exact Nat.lt_of_lt_of_le this (two_pow_le (by decide))
  · rw [← Rat.mkRat_mul_mkRat, Rat.mkRat_self, Rat.mkRat_self]
    exact p
theorem O_minus (T : Tx K mg) (O_lowest : OkD Pr w K mg base 2 "lowest" ["top", "bottom"] S_lowest) : OkD Pr w K mg base 3 "minus" ["one", "other"] S_minus := by
  refine ok_mk T.f_minus sc_minus (fun ds P ⟨a, b, e, _⟩ => by rw [e]; rfl) (fun f cdv A outer s H E hr => ⟨_, 
    (pss_one (ps_ret (pe_ok O_lowest (hr.mono (by decide)) (pa_cons (pe_op op_sub (pe_op op_mulW (pe_ix ix_seq (pv 0) pe_int (fun _ _ => rfl)) (pe_ix ix_seq (pv 1) pe_int (fun _ _ => rfl))) (pe_op op_mulW (pe_ix ix_seq (pv 1) pe_int (fun _ _ => rfl)) (pe_ix ix_seq (pv 0) pe_int (fun _ _ => rfl)))) (pa_cons (pe_op op_mulW (pe_ix ix_seq (pv 0) pe_int (fun _ _ => rfl)) (pe_ix ix_seq (pv 1) pe_int (fun _ _ => rfl))) pa_nil))))),
    fun ds P ⟨x, y, e, hx, hy, p⟩ => ?_⟩) fun _ _ _ _ _ _ us hl => match us, hl with | [_, _], _ => rfl
  subst e
  walk_at "ev"
  refine ⟨mul_wide (sz_num hx) (sz_den hy), ?_⟩
  walk_at "ev"
  refine ⟨mul_wide (sz_num hy) (sz_den hx), ?_⟩
  walk_at "ev"
  refine ⟨mul_wide (sz_den hx) (sz_den hy), ?_⟩
  walk_at "ev"
  refine ⟨Nat.mul_pos x.den_pos y.den_pos, ?_, ?_⟩
  · have := Nat.mul_lt_mul'' hx.1 hy.1
    rw [← Nat.pow_add] at this
    exact Nat.lt_of_lt_of_le this (two_pow_le (by decide))
  · have e : x - y = mkRat (x.num * y.den - y.num * x.den) (x.den * y.den) := by
      rw [Rat.mkRat_eq_div, Rat.intCast_sub, Rat.intCast_mul, Rat.intCast_mul, cast_mul2, Rat.intCast_natCast, Rat.intCast_natCast, ← mul_den x, ← mul_den y]
      have h1 : (x.den : Rat) ≠ 0 := fun z => x.den_nz (Rat.natCast_eq_zero_iff.mp z)
      have h2 : (y.den : Rat) ≠ 0 := fun z => y.den_nz (Rat.natCast_eq_zero_iff.mp z)
      generalize (x.den : Rat) = a at *
      generalize (y.den : Rat) = b at *
      grind
    rw [← e]
    exact p
theorem O_is_above (T : Tx K mg) : OkD Pr w K mg base 1 "is_above" ["one", "other"] S_is_above := by
  refine ok_mk T.f_is_above sc_is_above (fun ds P ⟨a, b, e, _⟩ => by rw [e]; rfl) (fun f cdv A outer s H E hr => ⟨_, 
    (pss_one (ps_ret (pe_cmpR op_gt (pe_op op_mulW (pe_ix ix_seq (pv 0) pe_int (fun _ _ => rfl)) (pe_ix ix_seq (pv 1) pe_int (fun _ _ => rfl))) (pe_op op_mulW (pe_ix ix_seq (pv 1) pe_int (fun _ _ => rfl)) (pe_ix ix_seq (pv 0) pe_int (fun _ _ => rfl))) (nomark _)))),
    fun ds P ⟨x, y, e, hx, hy, p⟩ => ?_⟩) fun _ _ _ _ _ _ us hl => match us, hl with | [_, _], _ => rfl
  subst e
  walk_at "ev"
  refine ⟨mul_wide (sz_num hx) (sz_den hy), ?_⟩
  walk_at "ev"
  refine ⟨mul_wide (sz_num hy) (sz_den hx), ?_⟩
  walk_at "ev"
  have e : decide (y < x) = decide (y.num * (x.den : Int) < x.num * (y.den : Int)) := by
    rw [decide_eq_decide]
    exact Rat.lt_iff y x
  rw [← e]
  exact p
theorem O_over (T : Tx K mg) (O_times : OkD Pr w K mg base 3 "times" ["one", "other"] S_times) : OkD Pr w K mg base 4 "over" ["one", "other"] S_over := by
  refine ok_mk T.f_over sc_over (fun ds P ⟨a, b, e, _⟩ => by rw [e]; rfl) (fun f cdv A outer s H E hr => ⟨_, 
    (pss_one (ps_ret (pe_ok O_times (hr.mono (by decide)) (pa_cons (pv 0) (pa_cons (pe_ifExp (pt_cmpR op_gt (pe_ix ix_seq (pv 1) pe_int (fun _ _ => rfl)) pe_int (nomark _)) (pe_tup (pa_cons (pe_ix ix_seq (pv 1) pe_int (fun _ _ => rfl)) (pa_cons (pe_ix ix_seq (pv 1) pe_int (fun _ _ => rfl)) pa_nil))) (pe_tup (pa_cons (pe_op op_sub pe_int (pe_ix ix_seq (pv 1) pe_int (fun _ _ => rfl))) (pa_cons (pe_op op_sub pe_int (pe_ix ix_seq (pv 1) pe_int (fun _ _ => rfl))) pa_nil)))) pa_nil))))),
    fun ds P ⟨x, y, e, h0, hx, hy, p⟩ => ?_⟩) fun _ _ _ _ _ _ us hl => match us, hl with | [_, _], _ => rfl
  subst e
  walk_at "ev"
  have hn : y.num ≠ 0 := fun z => h0 (Rat.num_eq_zero.mp z)
  have hi := sz_inv hy h0
  refine ite_dec (fun h => ?_) (fun h => ?_)
  · walk_at "ev"
    refine ⟨x, y⁻¹, ?_, hx, hi, by rw [← Rat.div_def]; exact p⟩
    unfold fr
    rw [Rat.num_inv, Rat.den_inv, Int.sign_eq_one_of_pos h]
    rw [show (1 : Int) * (y.den : Int) = (y.den : Int) by omega, if_neg hn]
    rw [show ((y.num.natAbs : Nat) : Int) = y.num by omega]
  · walk_at "ev"
    refine ⟨x, y⁻¹, ?_, hx, hi, by rw [← Rat.div_def]; exact p⟩
    unfold fr
    rw [Rat.num_inv, Rat.den_inv, Int.sign_eq_neg_one_of_neg (by omega), if_neg hn]
    rw [show (-1 : Int) * (y.den : Int) = 0 - (y.den : Int) by omega, show ((y.num.natAbs : Nat) : Int) = 0 - y.num by omega]
end
end Cs
set_option Elab.async false
set_option linter.all false
set_option maxRecDepth 100000
set_option maxHeartbeats 4200000
/-! Fractions as data; rows of them; defs, methods, classes by their bodies. -/
namespace Cs
open PySem PySem.Spec PyProof.Rows L2 StX Dl Mx
theorem zeroR {K : PySem.W.Frag} {mg : Str → Option Value} (T : Tx K mg) (H : Hp) : Rp K H (fr 0) (.ref 232) := ⟨232, _, rfl, T.t_ZERO H, ⟨_, _, rfl, rfl, _, _, rfl, rfl, rfl⟩⟩
theorem oneR {K : PySem.W.Frag} {mg : Str → Option Value} (T : Tx K mg) (H : Hp) : Rp K H (fr 1) (.ref 233) := ⟨233, _, rfl, T.t_ONE H, ⟨_, _, rfl, rfl, _, _, rfl, rfl, rfl⟩⟩
theorem py_fr (q : Rat) : py (fr q) = .tuple [.int q.num, .int q.den] := by
  unfold fr
  simp only [py, pyL]
theorem plain_fr (q : Rat) : Dl.plain (fr q) = true := by
  unfold fr
  simp only [Dl.plain, Dl.plainL, Bool.and_true, Bool.and_self]
theorem okEq_fr (q : Rat) : okEq (fr q) := by
  refine ⟨plain_fr q, ?_⟩
  rw [py_fr]
  rfl
theorem eqv_fr (p q : Rat) : PyData.eqv (py (fr p)) (py (fr q)) = decide (p = q) := by
  rw [py_fr, py_fr]
  simp only [PyData.eqv, PyData.eqvAll, Bool.and_true]
  by_cases h : p = q
  · subst h
    simp
  · rw [decide_eq_false h, Bool.and_eq_false_iff]
    by_cases h1 : p.num = q.num
    · refine .inr ?_
      by_cases h2 : (p.den : Int) = (q.den : Int)
      · exact absurd (Rat.ext h1 (by omega)) h
      · exact beq_eq_false_iff_ne.mpr h2
    · exact .inl (beq_eq_false_iff_ne.mpr h1)
section
variable {K : PySem.W.Frag} {ρ : Dl.Env}
theorem w_yes {PB : Bool → Dl.Env → Prop} (p : PB true ρ) : wT K tYes ρ PB := fun σ Hk H2 A Q q => q true ρ Hk H2 p A .refl
end
/-! ### rows of data -/
def seqD (n : Nat) (f : Nat → D) : List D := (List.range n).map f
theorem seqD_len (n : Nat) (f : Nat → D) : (seqD n f).length = n := by unfold seqD; rw [List.length_map, List.length_range]
theorem seqD_get {n : Nat} {f : Nat → D} {i : Nat} (h : i < n) : (seqD n f)[i]? = some (f i) := by
  unfold seqD
  rw [List.getElem?_map, List.getElem?_range h]
  rfl
theorem seqD_at {n : Nat} {f : Nat → D} {i : Nat} {d : D} (h : (seqD n f)[i]? = some d) : i < n ∧ d = f i := by
  have hi : i < n := by
    have := (List.getElem?_eq_some_iff.mp h).1
    rw [seqD_len] at this
    exact this
  rw [seqD_get hi] at h
  exact ⟨hi, (Option.some.inj h).symm⟩
theorem seqD_congr {n : Nat} {f g : Nat → D} (h : ∀ i, i < n → f i = g i) : seqD n f = seqD n g := by
  unfold seqD
  exact List.map_congr_left fun i hi => h i (List.mem_range.mp hi)
theorem seqD_ext {n : Nat} {f : Nat → D} {ds : List D} (hl : ds.length = n) (h : ∀ i, i < n → ds[i]? = some (f i)) : ds = seqD n f := by
  refine List.ext_getElem? fun i => ?_
  by_cases hi : i < n
  · rw [h i hi, seqD_get hi]
  · rw [List.getElem?_eq_none (by omega), List.getElem?_eq_none (by rw [seqD_len]; omega)]
theorem seqD_atI {n : Nat} {f : Nat → D} {i : Nat} (h : i < n) : atI (seqD n f) (i : Int) = some (f i) := by
  unfold atI
  have e : ixN (seqD n f).length (i : Int) = some i := by
    rw [seqD_len]
    unfold ixN
    rw [if_pos (by omega), if_pos (by
        omega)]
    rfl
  rw [e]
  exact seqD_get h
theorem nums_seq (lo : Int) (n : Nat) : nums lo n = seqD n fun i => .int (lo + (i : Nat)) := rfl
theorem pairs_seq (n : Nat) (f g : Nat → D) : pairs (seqD n f) (seqD n g) = seqD n fun i => .tup [f i, g i] := by
  refine seqD_ext (by rw [Dl.pairs_len, seqD_len, seqD_len, Nat.min_self]) fun i hi => ?_
  unfold pairs
  rw [List.getElem?_zipWith, seqD_get hi, seqD_get hi]
theorem enum_seq (n : Nat) (f : Nat → D) : pairs (nums 0 (seqD n f).length) (seqD n f) = seqD n fun i => .tup [.int (i : Nat), f i] := by
  rw [seqD_len, nums_seq, pairs_seq]
  exact seqD_congr fun i _ => by rw [Int.zero_add]
/-- a comprehension over rows: item by item -/
theorem lcd_seq {K : PySem.W.Frag} {P : PD} {ρ1 : Dl.Env} {g : TG} {tt : TT} {te : TE} {vs : List Nat} {n : Nat} {f : Nat → D} (e : Nat → D) (hn : n ≤ 100000) (hw : wipeS ρ1 vs = ρ1)
    (h : ∀ i, i < n → wG K vs g (f i) ρ1 fun ρ3 => wT K tt ρ3 fun b ρ4 => b = true ∧ wE K te ρ4 fun e' ρ5 => e' = e i ∧ wipeS ρ5 vs = ρ1) (p : P (.lst (seqD n e)) ρ1) : LcD K g tt te vs P (seqD n f) ρ1 := by
  refine lcd_to (seqD n e) (by rw [seqD_len, seqD_len]) (by rw [seqD_len]; exact hn) hw (fun i d e' hd he => ?_) p
  obtain ⟨hi, rfl⟩ := seqD_at hd
  obtain ⟨_, rfl⟩ := seqD_at he
  exact h i hi
/-- a loop over rows -/
theorem for_seq {K : PySem.W.Frag} {g : TG} {t : TS} {E : De} {n : Nat} {f : Nat → D} {ρ1 : Dl.Env} (js : List Nat) (Pv : Nat → Dl.Env → Prop) (h0 : Pv 0 ρ1) (hs : ∀ i ρ2, i < n → Pv i ρ2 → wG K js g (f i) ρ2 fun ρ3 => wS K t ρ3 ⟨Pv (i + 1), E.rt, E.nx, Pv (i + 1)⟩) (hd : ∀ ρ2, Pv n ρ2 → E.nx ρ2) : ForD K g t E (seqD n f) ρ1 := by
  refine ⟨js, Pv, h0, fun i d ρ2 hd' hp => ?_, by rw [seqD_len]; exact hd⟩
  obtain ⟨hi, rfl⟩ := seqD_at hd'
  exact hs i ρ2 hi hp
def rowD (n : Nat) (f : Mx.Row) : List D := seqD n fun j => fr (f j)
def rowsD (m n : Nat) (B : Nat → Mx.Row) : List D := seqD m fun i => .lst (rowD n (B i))
def basD (m : Nat) (β : Nat → Nat) : List D := seqD m fun i => .int (β i : Nat)
def frameD (m n : Nat) (f : Fr) : D := .obj CFrame ["lines", "basis"] [.lst (rowsD m n f.B), .lst (basD m f.β)]
/-! ### methods, classes -/
section
variable {Pr : Program} {w : World} {K : PySem.W.Frag} {mg : Str → Option Value} {base : Heap}
theorem okM_mk {C : Addr} {x qual : Str} {st : Stmt} {N ps : List Str} {k : Nat} {S : PS1} (h : ∃ f fd, Fun K x qual st f fd ∧ Meth K C x f) (sc : FnScope N ps (defScope st)) (hlen : ∀ ds P, S ds P → ds.length = ps.length)
    (body : ∀ (f : Addr) (cdv : Value) (A : Around) (outer : List PySem.Env) (s : Shared) (H : Hp) (E : XK), Room k (A.deeper (envOfC qual (defScope st) s.heap.objs.size f cdv)) →
      ∃ t, PSs (cxOf CX0 Pr w K mg base N qual (defScope st) f cdv A outer s H E).nox (defBody st) t ∧ ∀ ds P, S ds P → wS K t (envOf N ds) ⟨fun _ => P .non, fun d _ => P d, fun _ => False, fun _ => False⟩)
    (hb : ∀ (kV doc pm : Value) (an : Option Addr) (cdv ct : Value) (us : List Value), us.length = ps.length → bindArgs (PySem.W.fnOf x qual (defArgs st) (defBody st) (defScope st) .none kV doc pm an cdv ct) ⟨us, []⟩ = pure (ps.zip us)) : OkM Pr w K mg base (k + 1) C x ps (spD K S) := by
  obtain ⟨f, fd, F, hm⟩ := h
  exact ⟨f, fd, okD F sc hlen (fun cdv A outer s H E hr => body f cdv A outer s H E hr), F.binds hb, hm⟩
theorem okP_mk {C : Addr} {x qual : Str} {st : Stmt} {N ps : List Str} {k : Nat} {S : PS1} (h : ∃ p f fd, Fun K x qual st f fd ∧ PropOf K C x p f) (sc : FnScope N ps (defScope st)) (hlen : ∀ ds P, S ds P → ds.length = ps.length)
    (body : ∀ (f : Addr) (cdv : Value) (A : Around) (outer : List PySem.Env) (s : Shared) (H : Hp) (E : XK), Room k (A.deeper (envOfC qual (defScope st) s.heap.objs.size f cdv)) →
      ∃ t, PSs (cxOf CX0 Pr w K mg base N qual (defScope st) f cdv A outer s H E).nox (defBody st) t ∧ ∀ ds P, S ds P → wS K t (envOf N ds) ⟨fun _ => P .non, fun d _ => P d, fun _ => False, fun _ => False⟩)
    (hb : ∀ (kV doc pm : Value) (an : Option Addr) (cdv ct : Value) (us : List Value), us.length = ps.length → bindArgs (PySem.W.fnOf x qual (defArgs st) (defBody st) (defScope st) .none kV doc pm an cdv ct) ⟨us, []⟩ = pure (ps.zip us)) : OkP Pr w K mg base (k + 1) C x ps (spD K S) := by
  obtain ⟨p, f, fd, F, hm⟩ := h
  exact ⟨p, f, fd, okD F sc hlen (fun cdv A outer s H E hr => body f cdv A outer s H E hr), F.binds hb, hm⟩
theorem okI_mk {C : Addr} {qual : Str} {st : Stmt} {N ps : List Str} {k : Nat} {sp : Sp} (h : ∃ f fd, Fun K "__init__" qual st f fd ∧ Mk K C f) (sc : FnScope N ps (defScope st)) (hlen : ∀ vs H Q E, sp vs H Q E → vs.length = ps.length)
    (body : ∀ (f : Addr) (cdv : Value) (A : Around) (outer : List PySem.Env) (s : Shared) (H : Hp) (E : XK), Room k (A.deeper (envOfC qual (defScope st) s.heap.objs.size f cdv)) →
      ∃ t, PSs (cxOf CX0 Pr w K mg base N qual (defScope st) f cdv A outer s H E).nox (defBody st) t ∧ ∀ vs H Q E, sp vs H Q E → t { nx := fun _ H' => Q .non H', rt := Q } (L2.start N vs) H)
    (hb : ∀ (kV doc pm : Value) (an : Option Addr) (cdv ct : Value) (us : List Value), us.length = ps.length → bindArgs (PySem.W.fnOf "__init__" qual (defArgs st) (defBody st) (defScope st) .none kV doc pm an cdv ct) ⟨us, []⟩ = pure (ps.zip us)) : OkI Pr w K mg base (k + 1) C ps sp := by
  obtain ⟨f, fd, F, hm⟩ := h
  refine ⟨f, fd, F.ok sc hlen fun cdv A outer s H vs Q E hr hsp => ?_, F.binds hb, hm⟩
  obtain ⟨t, h1, h2⟩ := body f cdv A outer s H E hr
  exact ⟨t, h1, h2 vs H Q E hsp⟩
theorem w_fldL {ta : TE} {ρ : Dl.Env} {P : PD} (T : Tx K mg) (h : wE K ta ρ fun d ρ1 => ∃ ns ds e, d = .obj CFrame ns ds ∧ fieldOf "lines" ns ds = some e ∧ P e ρ1) : wE K (tFld K ta "lines") ρ P := w_fld T.c_Frame T.n_Frame_lines h
theorem w_fldB {ta : TE} {ρ : Dl.Env} {P : PD} (T : Tx K mg) (h : wE K ta ρ fun d ρ1 => ∃ ns ds e, d = .obj CFrame ns ds ∧ fieldOf "basis" ns ds = some e ∧ P e ρ1) : wE K (tFld K ta "basis") ρ P := w_fld T.c_Frame T.n_Frame_basis h
end
end Cs
set_option Elab.async false
set_option linter.all false
set_option maxRecDepth 100000
set_option maxHeartbeats 4200000
/-! What may be compared; equal data. -/
namespace Cs
open PySem PySem.Spec PyProof.Rows L2 StX Dl Mx
def okN (k : Nat) (d : D) : Prop := Dl.plain d = true ∧ PyData.canLay0 (py d) = true ∧ PyData.depth (py d) ≤ k
theorem okN.eq {k : Nat} {d : D} (h : okN k d) (hk : k ≤ 64) : okEq d := by
  refine ⟨h.1, ?_⟩
  unfold SeqAt.shaped
  rw [h.2.1, decide_eq_true (Nat.le_trans h.2.2 hk)]
  rfl
theorem okN.mono {k l : Nat} {d : D} (h : okN k d) (hk : k ≤ l) : okN l d := ⟨h.1, h.2.1, Nat.le_trans h.2.2 hk⟩
theorem okN_int (i : Int) : okN 0 (.int i) := ⟨by simp only [Dl.plain], by simp only [py, PyData.canLay0], by simp only [py, PyData.depth]; exact Nat.le_refl _⟩
theorem okN_non : okN 0 .non := ⟨by simp only [Dl.plain], by simp only [py, PyData.canLay0], by simp only [py, PyData.depth]; exact Nat.le_refl _⟩
theorem okN_str {x : Str} (h : PyData.canLay0 (.str x) = true) : okN 0 (.str x) := ⟨by simp only [Dl.plain], by simp only [py]; exact h, by simp only [py, PyData.depth]; exact Nat.le_refl _⟩
theorem okN_all {k : Nat} : ∀ {ds : List D}, (∀ d ∈ ds, okN k d) → Dl.plainL ds = true ∧ PyData.canLayAll0 (pyL ds) = true ∧ PyData.depthAll (pyL ds) ≤ k
  | [], _ => ⟨by simp only [Dl.plainL], by simp only [pyL, PyData.canLayAll0], by simp only [pyL, PyData.depthAll]; exact Nat.zero_le _⟩
  | d :: ds, h => by
    obtain ⟨a1, a2, a3⟩ := h d List.mem_cons_self
    obtain ⟨b1, b2, b3⟩ := okN_all (ds := ds) fun e he => h e (List.mem_cons_of_mem _ he)
    refine ⟨by simp only [Dl.plainL]; rw [a1, b1]; rfl, by simp only [pyL, PyData.canLayAll0]; rw [a2, b2]; rfl, ?_⟩
    simp only [pyL, PyData.depthAll]
    exact Nat.max_le.mpr ⟨a3, b3⟩
theorem okN_tup {k : Nat} {ds : List D} (h : ∀ d ∈ ds, okN k d) : okN (k + 1) (.tup ds) := by
  obtain ⟨b1, b2, b3⟩ := okN_all h
  exact ⟨by simp only [Dl.plain]; exact b1, by simp only [py, PyData.canLay0]; exact b2, by simp only [py, PyData.depth]; omega⟩
theorem okN_lst {k : Nat} {ds : List D} (h : ∀ d ∈ ds, okN k d) : okN (k + 1) (.lst ds) := by
  obtain ⟨b1, b2, b3⟩ := okN_all h
  exact ⟨by simp only [Dl.plain]; exact b1, by simp only [py, PyData.canLay0]; exact b2, by simp only [py, PyData.depth]; omega⟩
theorem okN_seqT {k n : Nat} {f : Nat → D} (h : ∀ i, i < n → okN k (f i)) : okN (k + 1) (.tup (seqD n f)) := okN_tup fun d hd => by
  obtain ⟨i, hi, rfl⟩ := List.mem_map.mp hd
  exact h i (List.mem_range.mp hi)
theorem okN_seqL {k n : Nat} {f : Nat → D} (h : ∀ i, i < n → okN k (f i)) : okN (k + 1) (.lst (seqD n f)) := okN_lst fun d hd => by
  obtain ⟨i, hi, rfl⟩ := List.mem_map.mp hd
  exact h i (List.mem_range.mp hi)
theorem okN_mapL {α : Type} {k : Nat} {f : α → D} {L : List α} (h : ∀ a ∈ L, okN k (f a)) : okN (k + 1) (.lst (L.map f)) := okN_lst fun d hd => by
  obtain ⟨a, ha, rfl⟩ := List.mem_map.mp hd
  exact h a ha
theorem okN_mapT {α : Type} {k : Nat} {f : α → D} {L : List α} (h : ∀ a ∈ L, okN k (f a)) : okN (k + 1) (.tup (L.map f)) := okN_tup fun d hd => by
  obtain ⟨a, ha, rfl⟩ := List.mem_map.mp hd
  exact h a ha
theorem okN_fr (q : Rat) : okN 1 (fr q) := okN_tup fun d hd => by
  rcases List.mem_cons.mp hd with e | e
  · rw [e]; exact okN_int _
  · rw [List.mem_singleton.mp e]; exact okN_int _
theorem okE_nilL : okEq (.lst []) := (okN_lst (k := 0) fun d h => absurd h List.not_mem_nil).eq (by decide)
theorem okE_nilT : okEq (.tup []) := (okN_tup (k := 0) fun d h => absurd h List.not_mem_nil).eq (by decide)
theorem eqv_nilL (ds : List D) : PyData.eqv (py (.lst ds)) (py (.lst [])) = ds.isEmpty := by
  simp only [py, PyData.eqv]
  cases ds with
  | nil => simp only [pyL, PyData.eqvAll, List.isEmpty]
  | cons d ds => simp only [pyL, PyData.eqvAll, List.isEmpty]
theorem eqv_nilT (ds : List D) : PyData.eqv (py (.tup ds)) (py (.tup [])) = ds.isEmpty := by
  simp only [py, PyData.eqv]
  cases ds with
  | nil => simp only [pyL, PyData.eqvAll, List.isEmpty]
  | cons d ds => simp only [pyL, PyData.eqvAll, List.isEmpty]
mutual
theorem eqv_self : ∀ d : PyData, PyData.canLay0 d = true → PyData.eqv d d = true
  | .none, _ => by simp only [PyData.eqv]
  | .bool b, _ => by simp only [PyData.eqv, beq_self_eq_true]
  | .int i, _ => by simp only [PyData.eqv, beq_self_eq_true]
  | .str x, _ => by simp only [PyData.eqv, beq_self_eq_true]
  | .list xs, h => by simp only [PyData.canLay0] at h; simp only [PyData.eqv]; exact eqv_selfAll xs h
  | .tuple xs, h => by simp only [PyData.canLay0] at h; simp only [PyData.eqv]; exact eqv_selfAll xs h
  | .dict _, h => by simp only [PyData.canLay0] at h; exact nomatch h
theorem eqv_selfAll : ∀ ds : List PyData, PyData.canLayAll0 ds = true → PyData.eqvAll ds ds = true
  | [], _ => by simp only [PyData.eqvAll]
  | d :: ds, h => by
    simp only [PyData.canLayAll0, Bool.and_eq_true] at h
    simp only [PyData.eqvAll, Bool.and_eq_true]
    exact ⟨eqv_self d h.1, eqv_selfAll ds h.2⟩
end
theorem okN.self {k : Nat} {d : D} (h : okN k d) : PyData.eqv (py d) (py d) = true := eqv_self _ h.2.1
end Cs
set_option Elab.async false
set_option linter.all false
set_option maxRecDepth 100000
set_option maxHeartbeats 4200000
/-! Rules with the written part named (within a comprehension's block). -/
namespace Cs
open PySem PySem.Spec PyProof.Rows L2 StX Dl
section
variable (K : PySem.W.Frag) {X : Cx} {e e2 o value : Expr} {es : List Expr} {ta to : TE} {t : TA} {f x : Str} {pos p tpos apos cpos : Pos} {elts : List Expr} {kk : Nat}
theorem kop_eqD (hu : X.A.units + 64 < cLine) (hK : X.K = K := by rfl) : OpR X (compareOp .Eq) (rEqD K) := hK ▸ op_eqD hu
theorem kop_neD (hu : X.A.units + 64 < cLine) (hK : X.K = K := by rfl) : OpR X (compareOp .NotEq) (rNeD K) := hK ▸ op_neD hu
theorem kop_notInD (hu : X.A.units + 65 < cLine) (hK : X.K = K := by rfl) : OpR X (compareOp .NotIn) (rNotInD K) := hK ▸ op_notInD hu
theorem kop_in_seq (hK : X.K = K := by rfl) : OpR X (compareOp .In) (rIn K false) := hK ▸ op_in_seq
theorem kop_catA (hK : X.K = K := by rfl) : OpR X (binaryOp .Add) (rCatA K) := hK ▸ op_catA
theorem kop_repT1 (hK : X.K = K := by rfl) : OpR X (binaryOp .Mult) (rRepN K) := hK ▸ op_repT1
theorem kix_seq (hK : X.K = K := by rfl) : IxR X (rIx K) := hK ▸ ix_seq
theorem kix_list (hK : X.K = K := by rfl) : IxR X (rIxL K) := hK ▸ ix_list
theorem kpe_fld (he : PE X e ta) (hb : attributeBase e f X.env (eval e X.env) = eval e X.env := by rfl) (hK : X.K = K := by rfl) : PE X (.Attribute e f pos) (tFld K ta f) := hK ▸ pe_fld he hb
theorem ksl_list (hK : X.K = K := by rfl) : SlR X (rSlL K) := hK ▸ sl_list
theorem ksl_tupA (hK : X.K = K := by rfl) : SlR X (rSlA K) := hK ▸ sl_tupA
theorem kcr_all (hc : X.calm = true := by rfl) (hK : X.K = K := by rfl) : CallR X (.builtin "all") (rAll K) := hK ▸ cr_all hc
theorem kcall_len (hK : X.K = K := by rfl) : CallR X (.builtin "len") (fun xs H Q => ∃ p ys, xs = [.ref p] ∧ (SqL K H p ys ∨ SqT K H p ys) ∧ Q (.int ys.length) H) := hK ▸ call_len_seq
theorem kcall_isi (hK : X.K = K := by rfl) : CallR X (.builtin "isinstance") (rIsi K) := hK ▸ call_isi
theorem kcall_tuple (hK : X.K = K := by rfl) : CallR X (.type "tuple") (fun xs H Q => ∃ p ys, xs = [.ref p] ∧ ((SqL K H p ys ∧ ∀ l, H l = none → Q (.ref l) (upd H l (.tup ys))) ∨ (SqT K H p ys ∧ Q (.ref p) H))) := hK ▸ call_tuple_of
theorem kcall_list (hK : X.K = K := by rfl) : CallR X (.type "list") (fun xs H Q => ∃ p ys, xs = [.ref p] ∧ (SqL K H p ys ∨ SqT K H p ys) ∧ ∀ l, H l = none → Q (.ref l) (upd H l (.lst ys))) := hK ▸ call_list_of
theorem kpi_list {tg : Expr} (he : PE X e ta) (hK : X.K = K := by rfl) : PI X tg e (iList K ta) := hK ▸ pi_list he
theorem kpi_tup {tg : Expr} (he : PE X e ta) (hK : X.K = K := by rfl) : PI X tg e (iTup K ta) := hK ▸ pi_tup he
theorem kpi_zip (hm : X.mg "zip" = none) (ha : PA X [e, e2] t) (hg : Gl X "zip" := by rfl)
    (hs : starEach [e, e2] X.env = (false, eval e X.env) :: starEach [e2] X.env := by rfl) (hpl : (backTo pos (starEach [e2] X.env)).any (·.1) = false := by rfl) (hK : X.K = K := by rfl) :
    PI X (.Tuple elts kk tpos) (.Call (.Name "zip" p) [e, e2] [] pos) (iZip K t) := hK ▸ pi_zip hg hm ha hs hpl
theorem kpi_zipA (hm : X.mg "zip" = none) (ha : PA X [e, e2] t) (hg : Gl X "zip" := by rfl)
    (hs : starEach [e, e2] X.env = (false, eval e X.env) :: starEach [e2] X.env := by rfl) (hpl : (backTo pos (starEach [e2] X.env)).any (·.1) = false := by rfl) (hK : X.K = K := by rfl) :
    PI X (.Tuple elts kk tpos) (.Call (.Name "zip" p) [e, e2] [] pos) (RZ.iZipA K t) := hK ▸ RZ.pi_zipA hg hm ha hs hpl
theorem kpi_zipTL (hm : X.mg "zip" = none) (ha : PA X [e, e2] t) (hg : Gl X "zip" := by rfl)
    (hs : starEach [e, e2] X.env = (false, eval e X.env) :: starEach [e2] X.env := by rfl) (hpl : (backTo pos (starEach [e2] X.env)).any (·.1) = false := by rfl) (hK : X.K = K := by rfl) :
    PI X (.Tuple elts kk tpos) (.Call (.Name "zip" p) [e, e2] [] pos) (iZipTL K t) := hK ▸ pi_zipTL hg hm ha hs hpl
theorem kpi_enum (hm : X.mg "enumerate" = none) (ha : PA X [e] t) (hg : Gl X "enumerate" := by rfl) (hs : starEach [e] X.env = [(false, eval e X.env)] := by rfl) (hK : X.K = K := by rfl) :
    PI X (.Tuple elts kk tpos) (.Call (.Name "enumerate" p) [e] [] pos) (iEnum K t) := hK ▸ pi_enum hg hm ha hs
theorem kpi_enumT (hm : X.mg "enumerate" = none) (ha : PA X [e] t) (hg : Gl X "enumerate" := by rfl) (hs : starEach [e] X.env = [(false, eval e X.env)] := by rfl) (hK : X.K = K := by rfl) :
    PI X (.Tuple elts kk tpos) (.Call (.Name "enumerate" p) [e] [] pos) (iEnumA K t) := hK ▸ pi_enumT hg hm ha hs
theorem kpi_enumZip {p' pos' : Pos} (hm : X.mg "enumerate" = none) (hm' : X.mg "zip" = none) (ha : PA X [e, e2] t) (hg : Gl X "enumerate" := by rfl) (hg' : Gl X "zip" := by rfl)
    (hs : starEach [e, e2] X.env = (false, eval e X.env) :: starEach [e2] X.env := by rfl) (hpl : (backTo pos' (starEach [e2] X.env)).any (·.1) = false := by rfl)
    (ho : starEach [.Call (.Name "zip" p') [e, e2] [] pos'] X.env = (false, eval (.Call (.Name "zip" p') [e, e2] [] pos') X.env) :: starEach [] X.env := by rfl) (hK : X.K = K := by rfl) :
    PI X (.Tuple elts kk tpos) (.Call (.Name "enumerate" p) [.Call (.Name "zip" p') [e, e2] [] pos'] [] pos) (iEnumZip K t) := hK ▸ pi_enumZip hg hm hg' hm' ha hs hpl ho
theorem kpa_star {te : TE} (he : PE X e te) (hr : PA X es t) (hs : starEach (.Starred e p :: es) X.env = (true, eval e X.env) :: starEach es X.env := by rfl) (hK : X.K = K := by rfl) : PA X (.Starred e p :: es) (tStar K te t) := hK ▸ pa_star he hr hs
theorem kpg_tup {u : TGs} {n : Nat} (h : PGs X es u) (hc : X.calm = true := by rfl) (hn : (assignEach es X.env).length = n := by rfl) (hst : (assignEach es X.env).findIdx? (·.1) = none := by rfl) (hK : X.K = K := by rfl) : PG X (.Tuple es kk pos) (gTup K n u) := hK ▸ pg_tup hc h hn hst
theorem kpe_pop {i : Expr} (ho : PE X o to) (ha : PA X [i] t)
    (hbase : attributeBase o "pop" X.env (eval o X.env) = eval o X.env := by rfl)
    (hfew : ((backTo cpos (starEach [i] X.env)).all (fun x => !x.1) && (backToKw cpos (keywordEach [] X.env)).all (fun x => x.1.isSome)
      && decide (([i] : List Expr).length + ([] : List Keyword).length + (if ([] : List Keyword).isEmpty then 0 else 1) < 30)) = true := by rfl)
    (hline : (apos.endLine == cpos.line) = true := by rfl) (hs : starEach [i] X.env = (false, eval i X.env) :: starEach [] X.env := by rfl) (hplain : (backTo cpos (starEach [] X.env)).any (·.1) = false := by rfl) (hK : X.K = K := by rfl) :
    PE X (.Call (.Attribute o "pop" apos) [i] [] cpos) (tBM K "list" rPopAt to t) := hK ▸ pe_bm PySem.F.plainAttrs_list PySem.F.slot_list_pop PySem.F.type_list_pop mt_popAt ho ha hbase hfew hline hs hplain
theorem kpe_append {i : Expr} (ho : PE X o to) (ha : PA X [i] t)
    (hbase : attributeBase o "append" X.env (eval o X.env) = eval o X.env := by rfl)
    (hfew : ((backTo cpos (starEach [i] X.env)).all (fun x => !x.1) && (backToKw cpos (keywordEach [] X.env)).all (fun x => x.1.isSome)
      && decide (([i] : List Expr).length + ([] : List Keyword).length + (if ([] : List Keyword).isEmpty then 0 else 1) < 30)) = true := by rfl)
    (hline : (apos.endLine == cpos.line) = true := by rfl) (hs : starEach [i] X.env = (false, eval i X.env) :: starEach [] X.env := by rfl) (hplain : (backTo cpos (starEach [] X.env)).any (·.1) = false := by rfl) (hK : X.K = K := by rfl) :
    PE X (.Call (.Attribute o "append" apos) [i] [] cpos) (tBM K "list" rAppend to t) := hK ▸ pe_bm PySem.F.plainAttrs_list PySem.F.slot_list_append PySem.F.type_list_append mt_append ho ha hbase hfew hline hs hplain
end
end Cs
set_option Elab.async false
set_option linter.all false
set_option maxRecDepth 100000
set_option maxHeartbeats 4200000
/-! The defs of rows and frames. -/
namespace Cs
open PySem PySem.Spec PyProof.Rows L2 StX Dl Mx
local macro_rules | `(tactic| walk_at "ev1") => `(tactic| first
  | with_reducible refine w_seq ?_
  | with_reducible refine w_next ?_
  | with_reducible refine w_ret ?_
  | with_reducible refine w_set ?_
  | with_reducible refine w_par ?_
  | with_reducible refine w_par3 ?_
  | with_reducible refine w_drop ?_
  | with_reducible refine w_ifS ?_
  | refine w_var rfl ?_
  | with_reducible refine w_cd (zeroR (by assumption)) ?_
  | with_reducible refine w_cd (oneR (by assumption)) ?_
  | with_reducible refine w_c ?_
  | with_reducible refine w_yes ?_
  | with_reducible refine w_cons ?_
  | with_reducible refine w_nil ?_
  | with_reducible refine w_tup ?_
  | with_reducible refine w_lst ?_
  | with_reducible refine w_neg ?_
  | with_reducible refine w_if ?_
  | with_reducible refine w_test ?_
  | with_reducible refine w_B ?_
  | with_reducible refine w_not ?_
  | with_reducible refine w_notV ?_
  | with_reducible refine w_and ?_
  | with_reducible refine w_or ?_
  | with_reducible refine w_andV ?_
  | with_reducible refine w_orV ?_
  | with_reducible refine w_op od_I0 ?_
  | with_reducible refine w_op od_I ?_
  | with_reducible refine w_op od_ix ?_
  | with_reducible refine w_op od_ixL ?_
  | with_reducible refine w_op od_ixT ?_
  | with_reducible refine w_op od_eq ?_
  | with_reducible refine w_op od_ne ?_
  | with_reducible refine w_op od_isN ?_
  | with_reducible refine w_op od_notN ?_
  | with_reducible refine w_op od_cat ?_
  | with_reducible refine w_op od_catA ?_
  | with_reducible refine w_op od_rep ?_
  | with_reducible refine w_op od_repN ?_
  | with_reducible refine w_op od_eqD ?_
  | with_reducible refine w_op od_neD ?_
  | with_reducible refine w_op od_in ?_
  | with_reducible refine w_op od_notInD ?_
  | with_reducible refine w_slL ?_
  | with_reducible refine w_slT ?_
  | with_reducible refine w_noPart ?_
  | with_reducible refine w_some ?_
  | with_reducible refine w_call ?_
  | with_reducible refine w_cb ca_len ?_
  | with_reducible refine w_cb ca_len_str ?_
  | with_reducible refine w_cb ca_list ?_
  | with_reducible refine w_cb ca_tuple ?_
  | with_reducible refine w_cb ca_abs ?_
  | with_reducible refine w_cb ca_int ?_
  | with_reducible refine w_cb ca_all ?_
  | with_reducible refine w_cb ca_repr ?_
  | with_reducible refine w_lc ?_
  | with_reducible refine w_for ?_
  | with_reducible refine w_meth ?_
  | with_reducible refine w_prop ?_
  | with_reducible refine w_mk ?_
  | with_reducible refine w_dc ?_
  | with_reducible refine w_dget2 ?_
  | with_reducible refine w_lstRg ?_
  | with_reducible refine w_cb ca_isi ?_
  | with_reducible refine w_cb ca_isC ?_
  | with_reducible refine w_cb ca_divmod ?_
  | with_reducible refine w_op od_inSign ?_
  | with_reducible refine i_enumA ?_
  | with_reducible refine i_zipTL ?_
  | with_reducible refine i_enumZip ?_
  | with_reducible refine i_zipTT ?_
  | with_reducible refine g_tup ?_
  | refine ⟨_, rfl, rfl, ?_⟩
  | with_reducible refine g_cons ?_
  | with_reducible refine g_name (by decide) ?_
  | with_reducible refine g_nil ?_
  | with_reducible refine w_asg (js := []) ?_
  | refine ⟨okEq_fr _, okEq_fr _, ?_⟩
  | with_reducible refine i_list ?_
  | with_reducible refine i_tup ?_
  | with_reducible refine i_rng1 ?_
  | with_reducible refine i_rng2 ?_
  | with_reducible refine i_enum ?_
  | with_reducible refine i_zip ?_
  | with_reducible refine i_str ?_
  | refine ⟨Nat.le_of_ble_eq_true rfl, ?_⟩
  | refine ⟨_, rfl, ?_⟩
  | refine ⟨_, _, rfl, ?_⟩
  | refine ⟨_, _, _, rfl, ?_⟩
  | refine ⟨_, _, _, _, rfl, rfl, rfl, ?_⟩
  | refine ⟨_, _, rfl, by decide, ?_⟩
  | refine ⟨_, _, rfl, rfl, ?_⟩
  | refine ⟨_, _, _, rfl, rfl, rfl, ?_⟩
  | refine ⟨_, _, _, rfl, rfl, ?_⟩
  | refine ⟨_, _, _, rfl, rfl, seqD_atI (by first | assumption | omega), ?_⟩
  | refine ⟨_, _, _, _, rfl, ?_⟩
  | refine ⟨rfl, ?_⟩)
local macro_rules | `(tactic| walk_at "ev") => `(tactic| repeat walk_at "ev1")
local macro_rules | `(tactic| walk_at "ev1") => `(tactic| first
  | with_reducible refine w_fldL (by assumption) ?_
  | with_reducible refine w_fldB (by assumption) ?_)
def S_less : PS1 := fun ds P => ∃ (n : Nat) (a b : Mx.Row) (c : Rat), ds = [.lst (rowD n a), .lst (rowD n b), fr c] ∧ n ≤ 1000 ∧ (∀ j, j < n → sz 1000 (a j) ∧ sz 1000 (b j)) ∧ sz 1000 c ∧ P (.lst (rowD n fun j => a j - b j * c))
section
variable {Pr : Program} {w : World} {K : PySem.W.Frag} {mg : Str → Option Value} {base : Heap}
theorem sc_less : FnScope ["one", "other", "by", "part", "mate"] ["one", "other", "by"] (defScope s_less) := ⟨rfl, rfl, rfl, by decide +kernel, rfl, by decide +kernel, by decide +kernel⟩
theorem sc_Frame__init : FnScope ["self", "rows", "basis"] ["self", "rows", "basis"] (defScope s_Frame_init) := ⟨rfl, rfl, rfl, by decide +kernel, rfl, by decide +kernel, by decide +kernel⟩
theorem sc_Frame_turned : FnScope ["self", "place", "column", "own", "rows", "part", "index", "row", "each"] ["self", "place", "column"] (defScope s_Frame_turned) := ⟨rfl, rfl, rfl, by decide +kernel, rfl, by decide +kernel, by decide +kernel⟩
theorem sc_Frame_prices : FnScope ["self", "costs", "found", "row", "column"] ["self", "costs"] (defScope s_Frame_prices) := ⟨rfl, rfl, rfl, by decide +kernel, rfl, by decide +kernel, by decide +kernel⟩
theorem sc_Frame_leaving : FnScope ["self", "column", "best", "found", "place", "row", "ratio"] ["self", "column"] (defScope s_Frame_leaving) := ⟨rfl, rfl, rfl, by decide +kernel, rfl, by decide +kernel, by decide +kernel⟩
theorem O_less (T : Tx K mg) (O_minus : OkD Pr w K mg base 3 "minus" ["one", "other"] S_minus) (O_times : OkD Pr w K mg base 3 "times" ["one", "other"] S_times) : OkD Pr w K mg base 4 "less" ["one", "other", "by"] S_less := by
  refine ok_mk T.f_less sc_less (fun ds P ⟨n, a, b, c, e, _⟩ => by rw [e]; rfl) (fun f cdv A outer s H E hr => ⟨_, 
    (pss_one (ps_ret (pe_lc (own := [("part", 3), ("mate", 4)]) rfl sc_less.nd (kpi_zip K T.z_zip (pa_cons (pv 0) (pa_cons (pv 1) pa_nil))) (blkOk_by (by kernel_rfl)) (by intro _ _ _ _ _; exact (kpg_tup K (n := 2) (pgs_cons (pg_nameA (i := 3) sc_less.nd) (pgs_cons (pg_nameA (i := 4) sc_less.nd) pgs_nil)))) (by intro _ _ _ _ _; exact pts_nil) (by intro _ _ _ _ _; exact (pe_ifExp (pt_cmpR (kop_neD K (by exact hr.units)) (pv 4) (pe_globR T.g_ZERO) (nomark _)) (pe_ok O_minus (hr.mono (by decide)) (pa_cons (pv 3) (pa_cons (pe_ok O_times (hr.mono (by decide)) (pa_cons (pv 4) (pa_cons (pv 2) pa_nil))) pa_nil))) (pv 3)))))),
    fun ds P ⟨n, a, b, c, e, hn, hab, hc, p⟩ => ?_⟩) fun _ _ _ _ _ _ us hl => match us, hl with | [_, _, _], _ => rfl
  subst e
  walk_at "ev"
  unfold rowD
  rw [pairs_seq]
  refine lcd_seq (fun j => fr (a j - b j * c)) (by omega) rfl (fun j hj => ?_) p
  walk_at "ev"
  rw [eqv_fr]
  by_cases h : b j = 0
  · rw [decide_eq_true h]
    refine ite_false' ?_
    walk_at "ev"
    refine ⟨?_, rfl⟩
    rw [h]
    congr 1
    grind
  · rw [decide_eq_false h]
    refine ite_true' ?_
    walk_at "ev"
    refine ⟨(hab j hj).2.mono (by decide), hc.mono (by decide), ?_⟩
    walk_at "ev"
    refine ⟨(hab j hj).1.mono (by decide), (sz_mul (hab j hj).2 hc).mono (by decide), rfl, rfl⟩
/-! ### frames -/
def S_Frame : List D → Prop := fun _ => True
theorem O_Frame_init (T : Tx K mg) : OkI Pr w K mg base 1 CFrame ["self", "rows", "basis"] (spI K CFrame ["lines", "basis"] S_Frame) := by
  refine okI_mk T.i_Frame sc_Frame__init (fun vs H Q E ⟨x, dx, rest, Hk, ds, e, _, _, _, _, _, r, hl, _⟩ => by rw [e, List.length_cons, r.length, hl]; rfl) (fun f cdv A outer s H E hr => ⟨_, 
    (pss_cons (ps_fld (pv 0) (pv 1) rfl)
      (pss_one (ps_fld (pv 0) (pv 2) rfl))),
    fun vs H Q E h => ?_⟩) fun _ _ _ _ _ _ us hl => match us, hl with | [_, _, _], _ => rfl
  obtain ⟨x, dx, rest, Hk, ds, e, hne, hx, kx, kdx, sub, r, hl, _, q⟩ := h
  subst e
  match ds, hl, r with
  | [d1, d2], _, r =>
    obtain ⟨y1, _, rfl, r1, y2, _, rfl, r2, hn⟩ := r
    obtain rfl := hn
    refine ⟨y1, rfl, .ref x, rfl, x, _, dx, [], rfl, hx, T.c_Frame, T.n_Frame_lines, by decide, ?_⟩
    refine ⟨y2, rfl, .ref x, rfl, x, _, dx, _, rfl, upd_same, T.c_Frame, T.n_Frame_basis, (show 1 < 1000 by decide), ?_⟩
    refine q Hk _ [("lines", y1), ("basis", y2)] (Same.refl _) (fun a o h => ?_) kx kdx upd_same rfl ⟨y1, _, rfl, r1, y2, _, rfl, r2, rfl⟩ (fun a o n h => ?_) (fun a h => .inl h)
    · have n : a ≠ x := fun z => by rw [z, kx] at h; exact nomatch h
      rw [upd_ne n, upd_ne n]
      exact sub a o h
    · rw [upd_ne n, upd_ne n]
      exact h
/-- the frame with another column told by a row -/
def S_turned : PS1 := fun ds P => ∃ (m n : Nat) (f : Fr) (r s : Nat), ds = [frameD m n f, .int (r : Nat), .int (s : Nat)] ∧ m ≤ 1000 ∧ n ≤ 1000 ∧ r < m ∧ s < n ∧ f.B r s ≠ 0 ∧ (∀ i j, i < m → j < n → sz 400 (f.B i j)) ∧ (∀ j, j < n → sz 1000 (f.B r j / f.B r s)) ∧ P (frameD m n ⟨piv f.B r s, pivB f.β r s⟩)
theorem O_Frame_turned (T : Tx K mg) (O_Frame_init : OkI Pr w K mg base 1 CFrame ["self", "rows", "basis"] (spI K CFrame ["lines", "basis"] S_Frame)) (O_over : OkD Pr w K mg base 4 "over" ["one", "other"] S_over) (O_less : OkD Pr w K mg base 4 "less" ["one", "other", "by"] S_less) :
    OkM Pr w K mg base 5 CFrame "turned" ["self", "place", "column"] (spD K S_turned) := by
  refine okM_mk T.m_Frame_turned sc_Frame_turned (fun ds P ⟨m, n, f, r, s, e, _⟩ => by rw [e]; rfl) (fun f cdv A outer s H E hr => ⟨_, 
    (pss_cons (ps_setA (i := 3) sc_Frame_turned.nd (pe_lc (own := [("part", 5)]) rfl sc_Frame_turned.nd (kpi_list K (pe_ix (kix_seq K) (kpe_fld K (pv 0)) (pv 1) (fun _ _ => rfl))) (blkOk_by (by kernel_rfl)) (by intro _ _ _ _ _; exact pg_nameA (i := 5) sc_Frame_turned.nd) (by intro _ _ _ _ _; exact pts_nil) (by intro _ _ _ _ _; exact (pe_ok O_over (hr.mono (by decide)) (pa_cons (pv 5) (pa_cons (pe_ix (kix_seq K) (pe_ix (kix_seq K) (kpe_fld K (pv 0)) (pv 1) (fun _ _ => rfl)) (pv 2) (fun _ _ => rfl)) pa_nil))))))
      (pss_cons (ps_setLc (i := 4) (own := [("index", 6), ("row", 7)]) rfl sc_Frame_turned.nd rfl rfl (sw_true rfl rfl rfl (by decide +kernel)) (kpi_enum K T.z_enumerate (pa_cons (kpe_fld K (pv 0)) pa_nil)) (blkOk_by (by kernel_rfl)) (by intro _ _ _ _ _; exact (kpg_tup K (n := 2) (pgs_cons (pg_nameA (i := 6) sc_Frame_turned.nd) (pgs_cons (pg_nameA (i := 7) sc_Frame_turned.nd) pgs_nil)))) (by intro _ _ _ _ _; exact pts_nil) (by intro _ _ _ _ _; exact (pe_ifExp (pt_cmpR op_eq (pv 6) (pv 1) (nomark _)) (pv 3) (pe_ok O_less (hr.mono (by decide)) (pa_cons (pv 7) (pa_cons (pv 3) (pa_cons (pe_ix (kix_seq K) (pv 7) (pv 2) (fun _ _ => rfl)) pa_nil)))))))
      (pss_one (ps_ret (pe_mkD T.g_Frame O_Frame_init (hr.mono (by decide)) (pa_cons (pv 4) (pa_cons (pe_lc (own := [("index", 6), ("each", 8)]) rfl sc_Frame_turned.nd (kpi_enum K T.z_enumerate (pa_cons (kpe_fld K (pv 0)) pa_nil)) (blkOk_by (by kernel_rfl)) (by intro _ _ _ _ _; exact (kpg_tup K (n := 2) (pgs_cons (pg_nameA (i := 6) sc_Frame_turned.nd) (pgs_cons (pg_nameA (i := 8) sc_Frame_turned.nd) pgs_nil)))) (by intro _ _ _ _ _; exact pts_nil) (by intro _ _ _ _ _; exact (pe_ifExp (pt_cmpR op_eq (pv 6) (pv 1) (nomark _)) (pv 2) (pv 8)))) pa_nil))))))),
    fun ds P ⟨m, n, f, r, s, e, hm, hn, hr, hs, hz, hsz, hq, p⟩ => ?_⟩) fun _ _ _ _ _ _ us hl => match us, hl with | [_, _, _], _ => rfl
  subst e
  have szt : ∀ {i j : Nat}, i < m → j < n → sz 4000 (f.B i j) := fun hi hj => (hsz _ _ hi hj).mono (by decide)
  walk_at "ev"
  refine lcd_seq (fun j => fr (f.B r j / f.B r s)) (by omega) rfl (fun j hj => ?_) ?_
  · walk_at "ev"
    exact ⟨hz, szt hr hj, szt hr hs, rfl, rfl⟩
  walk_at "ev"
  unfold rowsD
  rw [enum_seq]
  refine lcd_seq (fun i => .lst (rowD n (piv f.B r s i))) (by omega) rfl (fun i hi => ?_) ?_
  · walk_at "ev"
    refine ite_dec (fun h => ?_) (fun h => ?_)
    · have e : i = r := by injection h with h; omega
      subst e
      walk_at "ev"
      refine ⟨?_, rfl⟩
      congr 1
      refine seqD_congr fun j _ => ?_
      show _ = fr (if i = i then _ else _)
      rw [if_pos rfl]
    · have e : i ≠ r := fun z => h (by rw [z])
      walk_at "ev"
      refine ⟨hn, fun j hj => ⟨(hsz i j hi hj).mono (by decide), hq j hj⟩, (hsz i s hi hs).mono (by decide), ?_, rfl⟩
      congr 1
      refine seqD_congr fun j _ => ?_
      show _ = fr (if i = r then _ else _)
      rw [if_neg e]
  walk_at "ev"
  unfold basD
  rw [enum_seq]
  refine lcd_seq (fun i => .int (pivB f.β r s i : Nat)) (by omega) rfl (fun i hi => ?_) ?_
  · walk_at "ev"
    refine ite_dec (fun h => ?_) (fun h => ?_)
    · have e : i = r := by injection h with h; omega
      walk_at "ev"
      refine ⟨?_, rfl⟩
      show _ = D.int ((if i = r then s else f.β i : Nat) : Int)
      rw [if_pos e]
    · have e : i ≠ r := fun z => h (by rw [z])
      walk_at "ev"
      refine ⟨?_, rfl⟩
      show _ = D.int ((if i = r then s else f.β i : Nat) : Int)
      rw [if_neg e]
  walk_at "ev"
  exact ⟨trivial, p⟩
end
end Cs
set_option Elab.async false
set_option linter.all false
set_option maxRecDepth 100000
set_option maxHeartbeats 1200000
/-! The defs of rows and frames. -/
namespace Cs
open PySem PySem.Spec PyProof.Rows L2 StX Dl Mx
local macro_rules | `(tactic| walk_at "ev1") => `(tactic| first
  | with_reducible refine w_seq ?_
  | with_reducible refine ite_true' ?_
  | with_reducible refine ite_false' ?_
  | with_reducible refine w_next ?_
  | with_reducible refine w_ret ?_
  | with_reducible refine w_set ?_
  | with_reducible refine w_par ?_
  | with_reducible refine w_par3 ?_
  | with_reducible refine w_drop ?_
  | with_reducible refine w_ifS ?_
  | refine w_var rfl ?_
  | with_reducible refine w_cd (zeroR (by assumption)) ?_
  | with_reducible refine w_cd (oneR (by assumption)) ?_
  | with_reducible refine w_c ?_
  | with_reducible refine w_yes ?_
  | with_reducible refine w_cons ?_
  | with_reducible refine w_nil ?_
  | with_reducible refine w_tup ?_
  | with_reducible refine w_lst ?_
  | with_reducible refine w_neg ?_
  | with_reducible refine w_if ?_
  | with_reducible refine w_test ?_
  | with_reducible refine w_B ?_
  | with_reducible refine w_not ?_
  | with_reducible refine w_notV ?_
  | with_reducible refine w_and ?_
  | with_reducible refine w_or ?_
  | with_reducible refine w_andV ?_
  | with_reducible refine w_orV ?_
  | with_reducible refine w_op od_I0 ?_
  | with_reducible refine w_op od_I ?_
  | with_reducible refine w_op od_ix ?_
  | with_reducible refine w_op od_ixL ?_
  | with_reducible refine w_op od_ixT ?_
  | with_reducible refine w_op od_eq ?_
  | with_reducible refine w_op od_ne ?_
  | with_reducible refine w_op od_isN ?_
  | with_reducible refine w_op od_notN ?_
  | with_reducible refine w_op od_cat ?_
  | with_reducible refine w_op od_catA ?_
  | with_reducible refine w_op od_rep ?_
  | with_reducible refine w_op od_repN ?_
  | with_reducible refine w_op od_eqD ?_
  | with_reducible refine w_op od_neD ?_
  | with_reducible refine w_op od_in ?_
  | with_reducible refine w_op od_notInD ?_
  | with_reducible refine w_slL ?_
  | with_reducible refine w_slT ?_
  | with_reducible refine w_noPart ?_
  | with_reducible refine w_some ?_
  | with_reducible refine w_call ?_
  | with_reducible refine w_cb ca_len ?_
  | with_reducible refine w_cb ca_len_str ?_
  | with_reducible refine w_cb ca_list ?_
  | with_reducible refine w_cb ca_tuple ?_
  | with_reducible refine w_cb ca_abs ?_
  | with_reducible refine w_cb ca_int ?_
  | with_reducible refine w_cb ca_all ?_
  | with_reducible refine w_cb ca_repr ?_
  | with_reducible refine w_lc ?_
  | with_reducible refine w_for ?_
  | with_reducible refine w_meth ?_
  | with_reducible refine w_prop ?_
  | with_reducible refine w_mk ?_
  | with_reducible refine w_dc ?_
  | with_reducible refine w_dget2 ?_
  | with_reducible refine w_lstRg ?_
  | with_reducible refine w_cb ca_isi ?_
  | with_reducible refine w_cb ca_isC ?_
  | with_reducible refine w_cb ca_divmod ?_
  | with_reducible refine w_op od_inSign ?_
  | with_reducible refine i_enumA ?_
  | with_reducible refine i_zipTL ?_
  | with_reducible refine i_enumZip ?_
  | with_reducible refine i_zipTT ?_
  | with_reducible refine g_tup ?_
  | refine ⟨_, rfl, rfl, ?_⟩
  | with_reducible refine g_cons ?_
  | with_reducible refine g_name (by decide) ?_
  | with_reducible refine g_nil ?_
  | with_reducible refine w_asg (js := List.range 40) ?_
  | refine ⟨okEq_fr _, okEq_fr _, ?_⟩
  | with_reducible refine i_list ?_
  | with_reducible refine i_tup ?_
  | with_reducible refine i_rng1 ?_
  | with_reducible refine i_rng2 ?_
  | with_reducible refine i_enum ?_
  | with_reducible refine i_zip ?_
  | with_reducible refine i_str ?_
  | refine ⟨Nat.le_of_ble_eq_true rfl, ?_⟩
  | refine ⟨_, rfl, ?_⟩
  | refine ⟨_, _, rfl, ?_⟩
  | refine ⟨_, _, _, rfl, ?_⟩
  | refine ⟨_, _, _, _, rfl, rfl, rfl, ?_⟩
  | refine ⟨_, _, rfl, by decide, ?_⟩
  | refine ⟨_, _, rfl, rfl, ?_⟩
  | refine ⟨_, _, _, rfl, rfl, rfl, ?_⟩
  | refine ⟨_, _, _, rfl, rfl, ?_⟩
  | refine ⟨_, _, _, rfl, rfl, seqD_atI (by first | assumption | omega), ?_⟩
  | refine ⟨_, _, _, _, rfl, ?_⟩
  | refine ⟨rfl, ?_⟩)
local macro_rules | `(tactic| walk_at "ev") => `(tactic| repeat walk_at "ev1")
local macro_rules | `(tactic| walk_at "ev1") => `(tactic| first
  | with_reducible refine w_fldL (by assumption) ?_
  | with_reducible refine w_fldB (by assumption) ?_)
section
variable {Pr : Program} {w : World} {K : PySem.W.Frag} {mg : Str → Option Value} {base : Heap}
/-- what costs are less what the rows tell of them -/
def S_prices : PS1 := fun ds P => ∃ (m n : Nat) (f : Fr) (c : Mx.Row), ds = [frameD m n f, .lst (rowD n c)] ∧ m ≤ 1000 ∧ n ≤ 1000 ∧ Idn m f.B f.β ∧ (∀ i, i < m → f.β i < n) ∧ (∀ i j, i < m → j < n → sz 400 (f.B i j)) ∧ (∀ k j, k ≤ m → j < n → sz 400 (way c f.B f.β k j)) ∧ P (.lst (rowD n (pr m c f)))
theorem way_basis {m : Nat} {c : Mx.Row} {B : Nat → Mx.Row} {β : Nat → Nat} (d : Idn m B β) {i : Nat} (hi : i < m) : way c B β i (β i) = c (β i) := by
  show c (β i) - sumTo i (fun k => c (β k) * B k (β i)) = _
  rw [sumTo_zero fun k hk => by rw [d k (by omega) i hi, if_neg (by omega)]; grind]
  grind
theorem way_next {c : Mx.Row} {B : Nat → Mx.Row} {β : Nat → Nat} {i j : Nat} : way c B β (i + 1) j = way c B β i j - B i j * c (β i) := by
  show c j - (sumTo i (fun k => c (β k) * B k j) + c (β i) * B i j) = c j - sumTo i (fun k => c (β k) * B k j) - B i j * c (β i)
  grind
theorem O_Frame_prices (T : Tx K mg) (O_less : OkD Pr w K mg base 4 "less" ["one", "other", "by"] S_less) :
    OkM Pr w K mg base 5 CFrame "prices" ["self", "costs"] (spD K S_prices) := by
  refine okM_mk T.m_Frame_prices sc_Frame_prices (fun ds P ⟨m, n, f, c, e, _⟩ => by rw [e]; rfl) (fun f cdv A outer s H E hr => ⟨_, 
    (pss_cons (ps_setA (i := 2) sc_Frame_prices.nd (pe_callTy (kcall_list K) rfl T.z_list (by decide +kernel) (pa_cons (pv 1) pa_nil)))
      (pss_cons (ps_for PassesOwn.never rfl (kpi_zip K T.z_zip (pa_cons (kpe_fld K (pv 0)) (pa_cons (kpe_fld K (pv 0)) pa_nil))) (kpg_tup K (n := 2) (pgs_cons (pg_nameA (i := 3) sc_Frame_prices.nd) (pgs_cons (pg_nameA (i := 4) sc_Frame_prices.nd) pgs_nil))) (pss_one (ps_if (pt_cmpR (kop_neD K (by exact hr.units)) (pe_ix (kix_seq K) (pv 2) (pv 4) (fun _ _ => rfl)) (pe_globR T.g_ZERO) (nomark _)) (pss_one (ps_setA (i := 2) sc_Frame_prices.nd (pe_ok O_less (hr.mono (by decide)) (pa_cons (pv 2) (pa_cons (pv 3) (pa_cons (pe_ix (kix_seq K) (pv 2) (pv 4) (fun _ _ => rfl)) pa_nil)))))) pss_nil)))
      (pss_one (ps_ret (pv 2))))),
    fun ds P ⟨m, n, f, c, e, hm, hn, hd, hw, hB, hc, p⟩ => ?_⟩) fun _ _ _ _ _ _ us hl => match us, hl with | [_, _], _ => rfl
  subst e
  walk_at "ev"
  unfold rowsD basD
  rw [pairs_seq]
  refine for_seq [3, 4] (fun i ρ => Stop (∃ dd d3 d4, ρ = [.dat (frameD m n f), .dat (.lst (rowD n c)), .dat (.lst dd), d3, d4] ∧ dd = rowD n (way c f.B f.β i))) (stop ⟨rowD n c, .any, .any, rfl, ?_⟩) (fun i ρ hi hp => ?_) (fun ρ hp => ?_)
  · have e : way c f.B f.β 0 = c := by
      funext j
      show c j - 0 = c j
      grind
    rw [e]
  · obtain ⟨dd, d3, d4, e, e2⟩ := hp.go
    subst e e2
    have hb := hw i hi
    walk_at "ev"
    rw [eqv_fr, way_basis hd hi]
    by_cases h : c (f.β i) = 0
    · rw [decide_eq_true h]
      refine ite_false' ?_
      walk_at "ev"
      have e : way c f.B f.β (i + 1) = way c f.B f.β i := by
        funext j
        rw [way_next, h]
        grind
      exact stop ⟨_, _, _, rfl, by rw [e]⟩
    · rw [decide_eq_false h]
      refine ite_true' ?_
      walk_at "ev"
      have e : (fun j => way c f.B f.β i j - f.B i j * way c f.B f.β i (f.β i)) = way c f.B f.β (i + 1) := by
        funext j
        rw [way_next, way_basis hd hi]
      exact ⟨hn, fun j hj => ⟨(hc i j (by omega) hj).mono (by decide), (hB i j hi hj).mono (by decide)⟩, (hc i _ (by omega) hb).mono (by decide), stop ⟨_, _, _, rfl, by rw [e]⟩⟩
  · obtain ⟨dd, d3, d4, e, e2⟩ := hp.go
    subst e e2
    walk_at "ev"
    exact p
def optD : Option Nat → D
  | none => .non
  | some r => .int (r : Nat)
def ratD (f : Fr) (s : Nat) : Option Nat → D
  | none => .non
  | some r => fr (f.B r 0 / f.B r s)
/-- the row that bounds a column most -/
def S_leaving : PS1 := fun ds P => ∃ (m n : Nat) (f : Fr) (s : Nat), ds = [frameD m n f, .int (s : Nat)] ∧ m ≤ 1000 ∧ n ≤ 1000 ∧ 0 < n ∧ s < n ∧ (∀ i j, i < m → j < n → sz 400 (f.B i j)) ∧ P (optD (leave f.B f.β s m))
theorem sz_ratio {a b : Rat} (ha : sz 400 a) (hb : sz 400 b) (h0 : b ≠ 0) : sz 4000 (a / b) := by
  rw [Rat.div_def]
  exact (sz_mul ha (sz_inv hb h0)).mono (by decide)
theorem num_pos {q : Rat} : 0 < q.num ↔ 0 < q := by
  constructor
  · intro h
    exact (Rat.lt_iff 0 q).mpr (by show 0 * (q.den : Int) < q.num * 1; omega)
  · intro h
    have := (Rat.lt_iff 0 q).mp h
    have e : (0 : Rat).num * (q.den : Int) < q.num * ((0 : Rat).den : Int) := this
    have e2 : (0 : Int) * (q.den : Int) < q.num * 1 := e
    omega
theorem O_Frame_leaving (T : Tx K mg) (O_over : OkD Pr w K mg base 4 "over" ["one", "other"] S_over) (O_is_above : OkD Pr w K mg base 1 "is_above" ["one", "other"] S_is_above) :
    OkM Pr w K mg base 5 CFrame "leaving" ["self", "column"] (spD K S_leaving) := by
  refine okM_mk T.m_Frame_leaving sc_Frame_leaving (fun ds P ⟨m, n, f, c, e, _⟩ => by rw [e]; rfl) (fun f cdv A outer s H E hr => ⟨_, 
    (pss_cons (ps_asg (pe_tup (pa_cons pe_non (pa_cons pe_non pa_nil))) (kpg_tup K (n := 2) (pgs_cons (pg_nameA (i := 2) sc_Frame_leaving.nd) (pgs_cons (pg_nameA (i := 3) sc_Frame_leaving.nd) pgs_nil))))
      (pss_cons (ps_for PassesOwn.never rfl (kpi_enum K T.z_enumerate (pa_cons (kpe_fld K (pv 0)) pa_nil)) (kpg_tup K (n := 2) (pgs_cons (pg_nameA (i := 4) sc_Frame_leaving.nd) (pgs_cons (pg_nameA (i := 5) sc_Frame_leaving.nd) pgs_nil))) (pss_one (ps_if (pt_cmpR op_gt (pe_ix (kix_seq K) (pe_ix (kix_seq K) (pv 5) (pv 1) (fun _ _ => rfl)) pe_int (fun _ _ => rfl)) pe_int (nomark _)) (pss_cons (ps_setA (i := 6) sc_Frame_leaving.nd (pe_ok O_over (hr.mono (by decide)) (pa_cons (pe_ix (kix_seq K) (pv 5) pe_int (fun _ _ => rfl)) (pa_cons (pe_ix (kix_seq K) (pv 5) (pv 1) (fun _ _ => rfl)) pa_nil))))
      (pss_one (ps_if (PW.pt (pw_or (pt_cmpR op_isN (pv 2) pe_non (nomark _)) (pw_or (pt_val (pe_ok O_is_above (hr.mono (by decide)) (pa_cons (pv 2) (pa_cons (pv 6) pa_nil)))) (pw_or1 (PW.pt (pw_and (pt_cmpR (kop_eqD K (by exact hr.units)) (pv 6) (pv 2) (nomark _)) (pw_and1 (pt_cmpR op_lt (pe_ix (kix_seq K) (kpe_fld K (pv 0)) (pv 4) (fun _ _ => rfl)) (pe_ix (kix_seq K) (kpe_fld K (pv 0)) (pv 3) (fun _ _ => rfl)) (nomark _))))))))) (pss_one (ps_par (i := 2) (j := 3) rfl sc_Frame_leaving.nd rfl rfl (by decide) rfl rfl (pa_cons (pv 6) (pa_cons (pv 4) pa_nil)) (by rfl))) pss_nil))) pss_nil)))
      (pss_one (ps_ret (pv 3))))),
    fun ds P ⟨m, n, f, s, e, hm, hn, h0, hs, hB, p⟩ => ?_⟩) fun _ _ _ _ _ _ us hl => match us, hl with | [_, _], _ => rfl
  subst e
  walk_at "ev"
  unfold rowsD
  rw [enum_seq]
  refine for_seq [4, 5] (fun i ρ => Stop (∃ b fo d4 d5 d6, ρ = [.dat (frameD m n f), .dat (.int (s : Nat)), .dat b, .dat fo, d4, d5, d6] ∧ b = ratD f s (leave f.B f.β s i) ∧ fo = optD (leave f.B f.β s i) ∧ ∀ r, leave f.B f.β s i = some r → r < i ∧ 0 < f.B r s))
    (stop ⟨_, _, .any, .any, .any, rfl, rfl, rfl, fun r h => nomatch h⟩) (fun i ρ hi hp => ?_) (fun ρ hp => ?_)
  · obtain ⟨b, fo, d4, d5, d6, e, e1, e2, hr⟩ := hp.go
    subst e
    walk_at "ev"
    have le_ : ∀ r, leave f.B f.β s i = some r → r < i + 1 ∧ 0 < f.B r s := fun r h => ⟨Nat.lt_succ_of_lt (hr r h).1, (hr r h).2⟩
    refine ite_dec (fun h => ?_) (fun h => ?_)
    · have hpp := num_pos.mp h
      have hne : f.B i s ≠ 0 := fun z => by rw [z] at hpp; exact absurd hpp (by decide +kernel)
      walk_at "ev"
      refine ⟨hne, (hB i 0 hi h0).mono (by decide), (hB i s hi hs).mono (by decide), ?_⟩
      cases q : leave f.B f.β s i with
      | none =>
        have q2 : leave f.B f.β s (i + 1) = some i := by
          show (if 0 < f.B i s then (match leave f.B f.β s i with | none => some i | some f_1 => if beats f.B f.β s i f_1 then some i else some f_1) else leave f.B f.β s i) = _
          rw [if_pos hpp, q]
        rw [q] at e1 e2
        replace e1 : b = .non := e1
        replace e2 : fo = .non := e2
        subst e1 e2
        walk_at "ev"
        refine ite_true' ?_
        walk_at "ev"
        exact stop ⟨_, _, _, _, _, rfl, by rw [q2]; rfl, by rw [q2]; rfl, fun r z => by rw [q2] at z; obtain rfl := Option.some.inj z; exact ⟨Nat.lt_succ_self _, hpp⟩⟩
      | some r0 =>
        obtain ⟨hr0, hp0⟩ := hr r0 q
        have hne0 : f.B r0 s ≠ 0 := fun z => by rw [z] at hp0; exact absurd hp0 (by decide +kernel)
        have q2 : leave f.B f.β s (i + 1) = if beats f.B f.β s i r0 then some i else some r0 := by
          show (if 0 < f.B i s then (match leave f.B f.β s i with | none => some i | some f_1 => if beats f.B f.β s i f_1 then some i else some f_1) else leave f.B f.β s i) = _
          rw [if_pos hpp, q]
        have z1 := sz_ratio (hB i 0 hi h0) (hB i s hi hs) hne
        have z0 := sz_ratio (hB r0 0 (by omega) h0) (hB r0 s (by omega) hs) hne0
        have won : beats f.B f.β s i r0 → Stop (∃ b fo d4 d5 d6, ([.dat (frameD m n f), .dat (.int (s : Nat)), .dat (fr (f.B i 0 / f.B i s)), .dat (.int (i : Nat)), .dat (.int (i : Nat)), .dat (.lst (rowD n (f.B i))), .dat (fr (f.B i 0 / f.B i s))] : Dl.Env) = [.dat (frameD m n f), .dat (.int (s : Nat)), .dat b, .dat fo, d4, d5, d6] ∧ b = ratD f s (leave f.B f.β s (i + 1)) ∧ fo = optD (leave f.B f.β s (i + 1)) ∧ ∀ r, leave f.B f.β s (i + 1) = some r → r < i + 1 ∧ 0 < f.B r s) := fun y => by
          rw [if_pos y] at q2
          exact stop ⟨_, _, _, _, _, rfl, by rw [q2]; rfl, by rw [q2]; rfl, fun r z => by rw [q2] at z; obtain rfl := Option.some.inj z; exact ⟨Nat.lt_succ_self _, hpp⟩⟩
        have lost : ¬ beats f.B f.β s i r0 → Stop (∃ b fo d4 d5 d6, ([.dat (frameD m n f), .dat (.int (s : Nat)), .dat (fr (f.B r0 0 / f.B r0 s)), .dat (.int (r0 : Nat)), .dat (.int (i : Nat)), .dat (.lst (rowD n (f.B i))), .dat (fr (f.B i 0 / f.B i s))] : Dl.Env) = [.dat (frameD m n f), .dat (.int (s : Nat)), .dat b, .dat fo, d4, d5, d6] ∧ b = ratD f s (leave f.B f.β s (i + 1)) ∧ fo = optD (leave f.B f.β s (i + 1)) ∧ ∀ r, leave f.B f.β s (i + 1) = some r → r < i + 1 ∧ 0 < f.B r s) := fun y => by
          rw [if_neg y] at q2
          exact stop ⟨_, _, _, _, _, rfl, by rw [q2]; rfl, by rw [q2]; rfl, fun r z => by rw [q2] at z; obtain rfl := Option.some.inj z; exact le_ _ q⟩
        rw [q] at e1 e2
        replace e1 : b = fr (f.B r0 0 / f.B r0 s) := e1
        replace e2 : fo = .int (r0 : Nat) := e2
        subst e1 e2
        walk_at "ev"
        refine ite_false' ?_
        walk_at "ev"
        refine ⟨z0, z1, ?_⟩
        walk_at "ev"
        refine ite_dec (fun h1 => ?_) (fun h1 => ?_)
        · walk_at "ev"
          exact won (.inl h1)
        · walk_at "ev"
          rw [eqv_fr]
          refine ite_dec (fun h2 => ?_) (fun h2 => ?_)
          · walk_at "ev"
            refine ite_dec (fun h3 => ?_) (fun h3 => ?_)
            · walk_at "ev"
              exact won (.inr ⟨h2, by omega⟩)
            · walk_at "ev"
              exact lost fun y => by
                rcases y with y | ⟨_, y⟩
                · exact h1 y
                · omega
          · walk_at "ev"
            exact lost fun y => by
              rcases y with y | ⟨y, _⟩
              · exact h1 y
              · exact h2 y
    · have q2 : leave f.B f.β s (i + 1) = leave f.B f.β s i := by
        show (if 0 < f.B i s then (match leave f.B f.β s i with | none => some i | some f_1 => if beats f.B f.β s i f_1 then some i else some f_1) else leave f.B f.β s i) = _
        rw [if_neg fun z => h (num_pos.mpr z)]
      walk_at "ev"
      exact stop ⟨_, _, _, _, _, rfl, by rw [q2]; exact e1, by rw [q2]; exact e2, fun r z => by rw [q2] at z; exact le_ r z⟩
  · obtain ⟨b, fo, d4, d5, d6, e, e1, e2, hr⟩ := hp.go
    subst e e1 e2
    walk_at "ev"
    exact p
end
end Cs
set_option Elab.async false
set_option linter.all false
set_option maxRecDepth 100000
set_option maxHeartbeats 1200000
/-! The walk over frames; without the filling columns. -/
namespace Cs
open PySem PySem.Spec PyProof.Rows L2 StX Dl Mx
local macro_rules | `(tactic| walk_at "ev1") => `(tactic| first
  | with_reducible refine w_seq ?_
  | with_reducible refine ite_true' ?_
  | with_reducible refine ite_false' ?_
  | with_reducible refine w_next ?_
  | with_reducible refine w_ret ?_
  | with_reducible refine w_set ?_
  | with_reducible refine w_par ?_
  | with_reducible refine w_par3 ?_
  | with_reducible refine w_drop ?_
  | with_reducible refine w_ifS ?_
  | refine w_var rfl ?_
  | with_reducible refine w_cd (zeroR (by assumption)) ?_
  | with_reducible refine w_cd (oneR (by assumption)) ?_
  | with_reducible refine w_c ?_
  | with_reducible refine w_yes ?_
  | with_reducible refine w_cons ?_
  | with_reducible refine w_nil ?_
  | with_reducible refine w_tup ?_
  | with_reducible refine w_lst ?_
  | with_reducible refine w_neg ?_
  | with_reducible refine w_if ?_
  | with_reducible refine w_test ?_
  | with_reducible refine w_B ?_
  | with_reducible refine w_not ?_
  | with_reducible refine w_notV ?_
  | with_reducible refine w_and ?_
  | with_reducible refine w_or ?_
  | with_reducible refine w_andV ?_
  | with_reducible refine w_orV ?_
  | with_reducible refine w_op od_I0 ?_
  | with_reducible refine w_op od_I ?_
  | with_reducible refine w_op od_ix ?_
  | with_reducible refine w_op od_ixL ?_
  | with_reducible refine w_op od_ixT ?_
  | with_reducible refine w_op od_eq ?_
  | with_reducible refine w_op od_ne ?_
  | with_reducible refine w_op od_isN ?_
  | with_reducible refine w_op od_notN ?_
  | with_reducible refine w_op od_cat ?_
  | with_reducible refine w_op od_catA ?_
  | with_reducible refine w_op od_rep ?_
  | with_reducible refine w_op od_repN ?_
  | with_reducible refine w_op od_eqD ?_
  | with_reducible refine w_op od_neD ?_
  | with_reducible refine w_op od_in ?_
  | with_reducible refine w_op od_notInD ?_
  | with_reducible refine w_slL ?_
  | with_reducible refine w_slT ?_
  | with_reducible refine w_noPart ?_
  | with_reducible refine w_some ?_
  | with_reducible refine w_call ?_
  | with_reducible refine w_cb ca_len ?_
  | with_reducible refine w_cb ca_len_str ?_
  | with_reducible refine w_cb ca_list ?_
  | with_reducible refine w_cb ca_tuple ?_
  | with_reducible refine w_cb ca_abs ?_
  | with_reducible refine w_cb ca_int ?_
  | with_reducible refine w_cb ca_all ?_
  | with_reducible refine w_cb ca_repr ?_
  | with_reducible refine w_lc ?_
  | with_reducible refine w_for ?_
  | with_reducible refine w_meth ?_
  | with_reducible refine w_prop ?_
  | with_reducible refine w_mk ?_
  | with_reducible refine w_dc ?_
  | with_reducible refine w_dget2 ?_
  | with_reducible refine w_lstRg ?_
  | with_reducible refine w_cb ca_isi ?_
  | with_reducible refine w_cb ca_isC ?_
  | with_reducible refine w_cb ca_divmod ?_
  | with_reducible refine w_op od_inSign ?_
  | with_reducible refine i_enumA ?_
  | with_reducible refine i_zipTL ?_
  | with_reducible refine i_enumZip ?_
  | with_reducible refine i_zipTT ?_
  | with_reducible refine g_tup ?_
  | refine ⟨_, rfl, rfl, ?_⟩
  | with_reducible refine g_cons ?_
  | with_reducible refine g_name (by decide) ?_
  | with_reducible refine g_nil ?_
  | with_reducible refine w_asg (js := List.range 40) ?_
  | refine ⟨okEq_fr _, okEq_fr _, ?_⟩
  | with_reducible refine i_list ?_
  | with_reducible refine i_tup ?_
  | with_reducible refine i_rng1 ?_
  | with_reducible refine i_rng2 ?_
  | with_reducible refine i_enum ?_
  | with_reducible refine i_zip ?_
  | with_reducible refine i_str ?_
  | refine ⟨Nat.le_of_ble_eq_true rfl, ?_⟩
  | refine ⟨_, rfl, ?_⟩
  | refine ⟨_, _, rfl, ?_⟩
  | refine ⟨_, _, _, rfl, ?_⟩
  | refine ⟨_, _, _, _, rfl, rfl, rfl, ?_⟩
  | refine ⟨_, _, rfl, by decide, ?_⟩
  | refine ⟨_, _, rfl, rfl, ?_⟩
  | refine ⟨_, _, _, rfl, rfl, rfl, ?_⟩
  | refine ⟨_, _, _, rfl, rfl, ?_⟩
  | refine ⟨_, _, _, rfl, rfl, seqD_atI (by first | assumption | omega), ?_⟩
  | refine ⟨_, _, _, _, rfl, ?_⟩
  | refine ⟨_, _, _, _, _, rfl, ?_⟩
  | refine ⟨rfl, ?_⟩
  | refine ⟨by decide +kernel, ?_⟩)
local macro_rules | `(tactic| walk_at "ev") => `(tactic| repeat walk_at "ev1")
local macro_rules | `(tactic| walk_at "ev1") => `(tactic| first
  | with_reducible refine w_fldL (by assumption) ?_
  | with_reducible refine w_fldB (by assumption) ?_)
def keepD (q : Nat → Bool) : D → Bool
  | .v (.int i) => q i.toNat
  | _ => false
def natsD (l : List Nat) : List D := l.map fun c => .int (c : Nat)
theorem kept_nums (N : Nat) (q : Nat → Bool) : (nums 1 (N - 1)).filter (keepD q) = natsD (kept N q) := by
  unfold nums kept natsD
  rw [List.filter_map, List.filter_map, List.map_map]
  have e1 : (keepD q ∘ fun i : Nat => D.int (1 + (i : Nat))) = (q ∘ fun x => 1 + x) := by
    funext i
    show q ((1 : Int) + (i : Nat)).toNat = q (1 + i)
    rw [show ((1 : Int) + (i : Nat)).toNat = 1 + i by omega]
  rw [e1]
  refine List.map_congr_left fun i _ =>
      ?_
  show D.int (1 + (i : Nat)) = D.int ((1 + i : Nat) : Int)
  congr 2
theorem nums1_at {k i : Nat} {d : D} (h : (nums 1 k)[i]? = some d) : i < k ∧ d = .int ((1 + i : Nat) : Int) := by
  obtain ⟨hi, rfl⟩ := nums_at h
  exact ⟨hi, by congr 2⟩
theorem num_neg {q : Rat} : q.num < 0 ↔ q < 0 := by
  constructor
  · intro h
    exact (Rat.lt_iff q 0).mpr (by show q.num * 1 < 0 * (q.den : Int); omega)
  · intro h
    have e : q.num * ((0 : Rat).den : Int) < (0 : Rat).num * (q.den : Int) := (Rat.lt_iff q 0).mp h
    have e2 : q.num * 1 < (0 : Int) * (q.den : Int) := e
    omega
theorem atI_head {d : D} {ds : List D} : atI (d :: ds) (0 : Int) = some d := by
  unfold atI
  have e : ixN (d :: ds).length (0 : Int) = some 0 := by
    unfold ixN
    rw [if_pos (by omega), if_pos (by rw [List.length_cons]; omega)]
    rfl
  rw [e]
  rfl
theorem natsD_nil {l : List Nat} (h : (natsD l).length = 0) : l = [] := by
  unfold natsD at h
  rw [List.length_map] at h
  exact List.eq_nil_of_length_eq_zero h
/-- the columns of a frame of that problem -/
abbrev wid (m n : Nat) : Nat := 1 + n + m + m
section
variable {m n : Nat} {A : Nat → Nat → Int} {b : Nat → Int} {f : Fr} {ci : Nat → Int}
theorem Good.szs (G : Good m (wid m n) (M0 m n A b) f) (S : Small m n A b) {i j : Nat} (hi : i < m) : sz 400 (f.B i j) := (Tab.sz S G.tab hi j).mono (by decide)
theorem ci_nn (hc : ∀ j, ci j = 0 ∨ ci j = 1) (j : Nat) : (0 : Rat) ≤ (ci j : Rat) := by
  rcases hc j with e | e <;> rw [e] <;> decide +kernel
end
def S_settled : PS1 := fun ds P => ∃ (m n : Nat) (A : Nat → Nat → Int) (b : Nat → Int) (f : Fr) (ci : Nat → Int), ds = [frameD m (wid m n) f, .lst (rowD (wid m n) fun j => (ci j : Rat)), .lst (nums 1 (1 + n + m - 1))] ∧ Small m n A b ∧ (∀ j, ci j = 0 ∨ ci j = 1) ∧ Good m (wid m n) (M0 m n A b) f ∧
  P (.tup [frameD m (wid m n) (fin m (1 + n + m) (fun j => (ci j : Rat)) f), .lst (rowD (wid m n) (pr m (fun j => (ci j : Rat)) (fin m (1 + n + m) (fun j => (ci j : Rat)) f)))])
section
variable {Pr : Program} {w : World} {K : PySem.W.Frag} {mg : Str → Option Value} {base : Heap}
theorem sc_settled : FnScope ["frame", "costs", "columns", "prices", "below", "place", "column"] ["frame", "costs", "columns"] (defScope s_settled) := ⟨rfl, rfl, rfl, by decide +kernel, rfl, by decide +kernel, by decide +kernel⟩
theorem sc_without_fills : FnScope ["frame", "first", "place", "columns", "column"] ["frame", "first"] (defScope s_without_fills) := ⟨rfl, rfl, rfl, by decide +kernel, rfl, by decide +kernel, by decide +kernel⟩
theorem O_settled (T : Tx K mg) (O_Frame_prices : OkM Pr w K mg base 5 CFrame "prices" ["self", "costs"] (spD K S_prices)) (O_Frame_leaving : OkM Pr w K mg base 5 CFrame "leaving" ["self", "column"] (spD K S_leaving)) (O_Frame_turned : OkM Pr w K mg base 5 CFrame "turned" ["self", "place", "column"] (spD K S_turned)) :
    OkD Pr w K mg base 6 "settled" ["frame", "costs", "columns"] S_settled := by
  refine ok_mk T.f_settled sc_settled (fun ds P ⟨m, n, A, b, f, c, e, _⟩ => by rw [e]; rfl) (fun f cdv A outer s H E hr => ⟨_, 
    (pss_one (ps_while PassesOwn.never (pt_val pe_bl) (pss_cons (ps_setA (i := 3) sc_settled.nd (pe_okM T.c_Frame O_Frame_prices (hr.mono (by decide)) (pv 0) (pa_cons (pv 1) pa_nil)))
      (pss_cons (ps_setLc (i := 4) (own := [("column", 6)]) rfl sc_settled.nd rfl rfl (sw_true rfl rfl rfl (by decide +kernel)) (kpi_list K (pv 2)) (blkOk_by (by kernel_rfl)) (by intro _ _ _ _ _; exact pg_nameA (i := 6) sc_settled.nd) (by intro _ _ _ _ _; exact (pts_one (pt_cmpR op_lt (pe_ix (kix_seq K) (pe_ix (kix_seq K) (pv 3) (pv 6) (fun _ _ => rfl)) pe_int (fun _ _ => rfl)) pe_int (nomark _)))) (by intro _ _ _ _ _; exact (pv 6)))
      (pss_cons (ps_if (pt_cmpR op_eq (pe_callB (kcall_len K) rfl T.z_len PySem.boot_len (pa_cons (pv 4) pa_nil)) pe_int (nomark _)) (pss_one (ps_ret (pe_tup (pa_cons (pv 0) (pa_cons (pv 3) pa_nil))))) pss_nil)
      (pss_cons (ps_setA (i := 5) sc_settled.nd (pe_okM T.c_Frame O_Frame_leaving (hr.mono (by decide)) (pv 0) (pa_cons (pe_ix (kix_seq K) (pv 4) pe_int (fun _ _ => rfl)) pa_nil)))
      (pss_cons (ps_if (pt_cmpR op_isN (pv 5) pe_non (nomark _)) (pss_one (ps_ret (pe_tup (pa_cons pe_non (pa_cons (pv 3) pa_nil))))) pss_nil)
      (pss_one (ps_setA (i := 0) sc_settled.nd (pe_okM T.c_Frame O_Frame_turned (hr.mono (by decide)) (pv 0) (pa_cons (pv 5) (pa_cons (pe_ix (kix_seq K) (pv 4) pe_int (fun _ _ => rfl)) pa_nil)))))))))))),
    fun ds P ⟨m, n, A, b, f, ci, e, S, hc, G, p⟩ => ?_⟩) fun _ _ _ _ _ _ us hl => match us, hl with | [_, _, _], _ => rfl
  subst e
  have hm5 := S.m5
  have hn6 := S.n6
  have hN : 1 + n + m ≤ wid m n := Nat.le_add_right _ _
  obtain ⟨k0, hk0⟩ := G.ends hN (ci_nn hc)
  generalize hcc : (fun j => (ci j : Rat)) = cc at *
  refine w_while (fun mm ρ => Stop (∃ i g d3 d4 d5, ρ = [.dat (frameD m (wid m n) g), .dat (.lst (rowD (wid m n) cc)), .dat (.lst (nums 1 (1 + n + m - 1))), d3, d4, d5, .any] ∧ g = it m (1 + n + m) cc f i ∧ i + mm = k0)) k0 (stop ⟨0, f, .any, .any, .any, rfl, rfl, by omega⟩) (fun mm ρ hM => ?_)
  obtain ⟨i, g, d3, d4, d5, e, eg, hik⟩ := hM.go
  subst e eg
  have Gi := G.it (cost := cc) hN i
  have hway : ∀ k j, k ≤ m → sz 400 (way cc (it m (1 + n + m) cc f i).B (it m (1 + n + m) cc f i).β k j) := fun k j hk => by
    have h := way_sz S Gi.tab hc hk j
    rw [hcc] at h
    exact h.mono (by decide)
  have hw : wid m n ≤ 1000 := by show 1 + n + m + m ≤ 1000; omega
  walk_at "ev"
  refine ⟨by omega, hw, Gi.tab.idn, Gi.wide, fun i j hi _ => Good.szs Gi S hi, fun k j hk _ => hway k j hk, ?_⟩
  walk_at "ev"
  refine lcd_filter (keepD fun c => decide (pr m cc (it m (1 + n + m) cc f i) c < 0)) (by rw [nums_len]; omega) rfl (fun j d hd => ?_) ?_
  · obtain ⟨hj, rfl⟩ := nums1_at hd
    have hj2 : 1 + j < wid m n := by show 1 + j < 1 + n + m + m; omega
    walk_at "ev"
    refine ⟨?_, ?_⟩
    · show decide _ = decide _
      rw [decide_eq_decide]
      exact num_neg
    · split
      · walk_at "ev"
        rfl
      · rfl
  rw [kept_nums]
  rw [show kept (1 + n + m) (fun c => decide (pr m cc (it m (1 + n + m) cc f i) c < 0)) = bel (1 + n + m) (pr m cc (it m (1 + n + m) cc f i)) from rfl]
  cases hb : bel (1 + n + m) (pr m cc (it m (1 + n + m) cc f i)) with
  | nil =>
    rw [fin_at hb] at p
    walk_at "ev"
    refine ite_dec (fun h => ?_) (fun h => absurd rfl h)
    walk_at "ev"
    exact p
  | cons s l =>
    have hpos : 0 < mm := by
      rcases Nat.eq_zero_or_pos mm with z | z
      · exfalso
        have e : i = k0 := by omega
        rw [e, hk0] at hb
        exact nomatch hb
      · exact z
    obtain ⟨b1, b2, b3, b4⟩ := bel_cons hb
    have hcn : ∀ j, 0 ≤ cc j := fun j => by rw [← hcc]; exact ci_nn hc j
    obtain ⟨r, hlv⟩ := Gi.leaves hcn b3
    have tn := turn_of hb hlv
    have G1 := Gi.turned tn hN
    have hs2 : s < wid m n := by show s < 1 + n + m + m; omega
    have hst : it m (1 + n + m) cc f (i + 1) = ⟨piv (it m (1 + n + m) cc f i).B r s, pivB (it m (1 + n + m) cc f i).β r s⟩ := by
      show next m (1 + n + m) cc (it m (1 + n + m) cc f i) = _
      unfold next
      rw [hb]
      dsimp only
      rw [hlv]
    have hz : (it m (1 + n + m) cc f i).B r s ≠ 0 := fun z => by
      have := tn.pos
      rw [z] at this
      exact absurd this (by decide +kernel)
    have hq : ∀ j, sz 1000 ((it m (1 + n + m) cc f i).B r j / (it m (1 + n + m) cc f i).B r s) := fun j => by
      have h : sz 400 (piv (it m (1 + n + m) cc f i).B r s r j) := (Tab.sz S G1.tab tn.rm j).mono (by decide)
      have e : piv (it m (1 + n + m) cc f i).B r s r j = (it m (1 + n + m) cc f i).B r j / (it m (1 + n + m) cc f i).B r s := by
        show (if r = r then _ else _) = _
        rw [if_pos rfl]
      rw [e] at h
      exact h.mono (by decide)
    walk_at "ev"
    refine ite_dec (fun h => ?_) (fun h => ?_)
    · injection h with h
      exact absurd h (by show ¬ ((l.map _).length + 1 : Nat) = (0 : Int); omega)
    walk_at "ev"
    refine ⟨_, _, _, rfl, rfl, atI_head, ?_⟩
    walk_at "ev"
    refine ⟨by omega, hw, by show 0 < 1 + n + m + m; omega, hs2, fun i' j hi _ => Good.szs Gi S hi, ?_⟩
    rw [hlv]
    walk_at "ev"
    refine ite_false' ?_
    walk_at "ev"
    refine ⟨_, _, _, rfl, rfl, atI_head, ?_⟩
    walk_at "ev"
    refine ⟨by omega, hw, tn.rm, hs2, hz, fun i' j hi _ => Good.szs Gi S hi, fun j _ => hq j, ?_⟩
    exact ⟨mm - 1, by omega, stop ⟨i + 1, _, _, _, _, rfl, hst.symm, by omega⟩⟩
end
end Cs
set_option Elab.async false
set_option linter.all false
set_option maxRecDepth 100000
set_option maxHeartbeats 1200000
/-! Without the filling columns; what is found. -/
namespace Cs
open PySem PySem.Spec PyProof.Rows L2 StX Dl Mx
local macro_rules | `(tactic| walk_at "ev1") => `(tactic| first
  | with_reducible refine w_seq ?_
  | with_reducible refine ite_true' ?_
  | with_reducible refine ite_false' ?_
  | with_reducible refine w_next ?_
  | with_reducible refine w_ret ?_
  | with_reducible refine w_set ?_
  | with_reducible refine w_par ?_
  | with_reducible refine w_par3 ?_
  | with_reducible refine w_drop ?_
  | with_reducible refine w_ifS ?_
  | refine w_var rfl ?_
  | with_reducible refine w_cd (zeroR (by assumption)) ?_
  | with_reducible refine w_cd (oneR (by assumption)) ?_
  | with_reducible refine w_c ?_
  | with_reducible refine w_yes ?_
  | with_reducible refine w_cons ?_
  | with_reducible refine w_nil ?_
  | with_reducible refine w_tup ?_
  | with_reducible refine w_lst ?_
  | with_reducible refine w_neg ?_
  | with_reducible refine w_if ?_
  | with_reducible refine w_test ?_
  | with_reducible refine w_B ?_
  | with_reducible refine w_not ?_
  | with_reducible refine w_notV ?_
  | with_reducible refine w_and ?_
  | with_reducible refine w_or ?_
  | with_reducible refine w_andV ?_
  | with_reducible refine w_orV ?_
  | with_reducible refine w_op od_I0 ?_
  | with_reducible refine w_op od_I ?_
  | with_reducible refine w_op od_ix ?_
  | with_reducible refine w_op od_ixL ?_
  | with_reducible refine w_op od_ixT ?_
  | with_reducible refine w_op od_eq ?_
  | with_reducible refine w_op od_ne ?_
  | with_reducible refine w_op od_isN ?_
  | with_reducible refine w_op od_notN ?_
  | with_reducible refine w_op od_cat ?_
  | with_reducible refine w_op od_catA ?_
  | with_reducible refine w_op od_rep ?_
  | with_reducible refine w_op od_repN ?_
  | with_reducible refine w_op od_eqD ?_
  | with_reducible refine w_op od_neD ?_
  | with_reducible refine w_op od_in ?_
  | with_reducible refine w_op od_notInD ?_
  | with_reducible refine w_slL ?_
  | with_reducible refine w_slT ?_
  | with_reducible refine w_noPart ?_
  | with_reducible refine w_some ?_
  | with_reducible refine w_call ?_
  | with_reducible refine w_cb ca_len ?_
  | with_reducible refine w_cb ca_len_str ?_
  | with_reducible refine w_cb ca_list ?_
  | with_reducible refine w_cb ca_tuple ?_
  | with_reducible refine w_cb ca_abs ?_
  | with_reducible refine w_cb ca_int ?_
  | with_reducible refine w_cb ca_all ?_
  | with_reducible refine w_cb ca_repr ?_
  | with_reducible refine w_lc ?_
  | with_reducible refine w_for ?_
  | with_reducible refine w_meth ?_
  | with_reducible refine w_prop ?_
  | with_reducible refine w_mk ?_
  | with_reducible refine w_dc ?_
  | with_reducible refine w_dget2 ?_
  | with_reducible refine w_lstRg ?_
  | with_reducible refine w_cb ca_isi ?_
  | with_reducible refine w_cb ca_isC ?_
  | with_reducible refine w_cb ca_divmod ?_
  | with_reducible refine w_op od_inSign ?_
  | with_reducible refine i_enumA ?_
  | with_reducible refine i_zipTL ?_
  | with_reducible refine i_enumZip ?_
  | with_reducible refine i_zipTT ?_
  | with_reducible refine g_tup ?_
  | refine ⟨_, rfl, rfl, ?_⟩
  | with_reducible refine g_cons ?_
  | with_reducible refine g_name (by decide) ?_
  | with_reducible refine g_nil ?_
  | with_reducible refine w_asg (js := List.range 40) ?_
  | refine ⟨okEq_fr _, okEq_fr _, ?_⟩
  | with_reducible refine i_list ?_
  | with_reducible refine i_tup ?_
  | with_reducible refine i_rng1 ?_
  | with_reducible refine i_rng2 ?_
  | with_reducible refine i_enum ?_
  | with_reducible refine i_zip ?_
  | with_reducible refine i_str ?_
  | refine ⟨Nat.le_of_ble_eq_true rfl, ?_⟩
  | refine ⟨_, rfl, ?_⟩
  | refine ⟨_, _, rfl, ?_⟩
  | refine ⟨_, _, _, rfl, ?_⟩
  | refine ⟨_, _, _, _, rfl, rfl, rfl, ?_⟩
  | refine ⟨_, _, rfl, by decide, ?_⟩
  | refine ⟨_, _, rfl, rfl, ?_⟩
  | refine ⟨_, _, _, rfl, rfl, rfl, ?_⟩
  | refine ⟨_, _, _, rfl, rfl, ?_⟩
  | refine ⟨_, _, _, rfl, rfl, seqD_atI (by first | assumption | omega), ?_⟩
  | refine ⟨_, _, _, _, rfl, ?_⟩
  | refine ⟨_, _, _, _, _, rfl, ?_⟩
  | refine ⟨rfl, ?_⟩
  | refine ⟨by decide +kernel, ?_⟩)
local macro_rules | `(tactic| walk_at "ev") => `(tactic| repeat walk_at "ev1")
local macro_rules | `(tactic| walk_at "ev1") => `(tactic| first
  | with_reducible refine w_fldL (by assumption) ?_
  | with_reducible refine w_fldB (by assumption) ?_)
def S_without_fills : PS1 := fun ds P => ∃ (m n : Nat) (A : Nat → Nat → Int) (b : Nat → Int) (f : Fr), ds = [frameD m (wid m n) f, .int ((1 + n + m : Nat) : Int)] ∧ Small m n A b ∧ Flat m n (M0 m n A b) f ∧ P (frameD m (wid m n) (wf (1 + n + m) f m))
def S_Outcome : List D → Prop := fun _ => True
theorem natsD_len (l : List Nat) : (natsD l).length = l.length := by unfold natsD; rw [List.length_map]
section
variable {Pr : Program} {w : World} {K : PySem.W.Frag} {mg : Str → Option Value} {base : Heap}
theorem sc_Outcome__init : FnScope ["self", "word", "values", "cost", "weights"] ["self", "word", "values", "cost", "weights"] (defScope s_Outcome_init) := ⟨rfl, rfl, rfl, by decide +kernel, rfl, by decide +kernel, by decide +kernel⟩
theorem O_Outcome_init (T : Tx K mg) : OkI Pr w K mg base 1 COutcome ["self", "word", "values", "cost", "weights"] (spI K COutcome ["word", "point", "cost", "weights"] S_Outcome) := by
  refine okI_mk T.i_Outcome sc_Outcome__init (fun vs H Q E ⟨x, dx, rest, Hk, ds, e, _, _, _, _, _, r, hl, _⟩ => by rw [e, List.length_cons, r.length, hl]; rfl) (fun f cdv A outer s H E hr => ⟨_, 
    (pss_cons (ps_fld (pv 0) (pv 1) rfl)
      (pss_cons (ps_fld (pv 0) (pv 2) rfl)
      (pss_cons (ps_fld (pv 0) (pv 3) rfl)
      (pss_one (ps_fld (pv 0) (pv 4) rfl))))),
    fun vs H Q E h => ?_⟩) fun _ _ _ _ _ _ us hl => match us, hl with | [_, _, _, _, _], _ => rfl
  obtain ⟨x, dx, rest, Hk, ds, e, hne, hx, kx, kdx, sub, r, hl, _, q⟩ := h
  subst e
  match ds, hl, r with
  | [d1, d2, d3, d4], _, r =>
    obtain ⟨y1, _, rfl, r1, y2, _, rfl, r2, y3, _, rfl, r3, y4, _, rfl, r4, hn⟩ := r
    obtain rfl := hn
    refine ⟨y1, rfl, .ref x, rfl, x, _, dx, [], rfl, hx, T.c_Outcome, T.n_Outcome_word, by decide, ?_⟩
    refine ⟨y2, rfl, .ref x, rfl, x, _, dx, _, rfl, upd_same, T.c_Outcome, T.n_Outcome_point, (show 1 < 1000 by decide), ?_⟩
    refine ⟨y3, rfl, .ref x, rfl, x, _, dx, _, rfl, upd_same, T.c_Outcome, T.n_Outcome_cost, (show 2 < 1000 by decide), ?_⟩
    refine ⟨y4, rfl, .ref x, rfl, x, _, dx, _, rfl, upd_same, T.c_Outcome, T.n_Outcome_weights, (show 3 < 1000 by decide), ?_⟩
    refine q Hk _ [("word", y1), ("point", y2), ("cost", y3), ("weights", y4)] (Same.refl _) (fun a o h => ?_) kx kdx upd_same rfl ⟨y1, _, rfl, r1, y2, _, rfl, r2, y3, _, rfl, r3, y4, _, rfl, r4, rfl⟩ (fun a o n h => ?_) (fun a h => .inl h)
    · have n : a ≠ x := fun z => by rw [z, kx] at h; exact nomatch h
      rw [upd_ne n, upd_ne n, upd_ne n, upd_ne n]
      exact sub a o h
    · rw [upd_ne n, upd_ne n, upd_ne n, upd_ne n]
      exact h
theorem O_without_fills (T : Tx K mg) (O_Frame_turned : OkM Pr w K mg base 5 CFrame "turned" ["self", "place", "column"] (spD K S_turned)) :
    OkD Pr w K mg base 6 "without_fills" ["frame", "first"] S_without_fills := by
  refine ok_mk T.f_without_fills sc_without_fills (fun ds P ⟨m, n, A, b, f, e, _⟩ => by rw [e]; rfl) (fun f cdv A outer s H E hr => ⟨_, 
    (pss_cons (ps_for PassesOwn.never rfl (pi_range1 rfl T.z_range (pa_cons (pe_callB (kcall_len K) rfl T.z_len PySem.boot_len (pa_cons (kpe_fld K (pv 0)) pa_nil)) pa_nil)) (pg_nameA (i := 2) sc_without_fills.nd) (pss_one (ps_if (pt_cmpR op_ge (pe_ix (kix_seq K) (kpe_fld K (pv 0)) (pv 2) (fun _ _ => rfl)) (pv 1) (nomark _)) (pss_cons (ps_setLc (i := 3) (own := [("column", 4)]) rfl sc_without_fills.nd rfl rfl (sw_true rfl rfl rfl (by decide +kernel)) (pi_range2 rfl T.z_range (pa_cons pe_int (pa_cons (pv 1) pa_nil))) (blkOk_by (by kernel_rfl)) (by intro _ _ _ _ _; exact pg_nameA (i := 4) sc_without_fills.nd) (by intro _ _ _ _ _; exact (pts_one (pt_cmpR (kop_neD K (by exact hr.units)) (pe_ix (kix_seq K) (pe_ix (kix_seq K) (kpe_fld K (pv 0)) (pv 2) (fun _ _ => rfl)) (pv 4) (fun _ _ => rfl)) (pe_globR T.g_ZERO) (nomark _)))) (by intro _ _ _ _ _; exact (pv 4)))
      (pss_one (ps_if (pt_cmpR op_gt (pe_callB (kcall_len K) rfl T.z_len PySem.boot_len (pa_cons (pv 3) pa_nil)) pe_int (nomark _)) (pss_one (ps_setA (i := 0) sc_without_fills.nd (pe_okM T.c_Frame O_Frame_turned (hr.mono (by decide)) (pv 0) (pa_cons (pv 2) (pa_cons (pe_ix (kix_seq K) (pv 3) pe_int (fun _ _ => rfl)) pa_nil))))) pss_nil))) pss_nil)))
      (pss_one (ps_ret (pv 0)))),
    fun ds P ⟨m, n, A, b, f, e, S, F, p⟩ => ?_⟩) fun _ _ _ _ _ _ us hl => match us, hl with | [_, _], _ => rfl
  subst e
  have hm5 := S.m5
  have hn6 := S.n6
  have hw : wid m n ≤ 1000 := by show 1 + n + m + m ≤ 1000; omega
  walk_at "ev"
  have hl : ((rowsD m (wid m n) f.B).length : Int) = (m : Int) := by unfold rowsD; rw [seqD_len]
  rw [hl]
  refine ⟨by omega, ?_⟩
  rw [show ((m : Int)).toNat = m by omega, nums_seq]
  refine for_seq [2] (fun i ρ => Stop (∃ g d2 d3, ρ = [.dat (frameD m (wid m n) g), .dat (.int ((1 + n + m : Nat) : Int)), d2, d3, .any] ∧ g = wf (1 + n + m) f i)) (stop ⟨_, _, _, rfl, rfl⟩) (fun i ρ hi hp => ?_) (fun ρ hp => ?_)
  · obtain ⟨g, d2, d3, e, eg⟩ := hp.go
    subst e
    have Fg : Flat m n (M0 m n A b) g := by rw [eg]; exact F.wf i (by omega)
    rw [show D.int (0 + (i : Nat)) = D.int (i : Nat) by rw [Int.zero_add]]
    walk_at "ev"
    refine ite_dec (fun h => ?_) (fun h => ?_)
    · have hb : 1 + n + m ≤ g.β i := by omega
      walk_at "ev"
      refine ⟨⟨by omega, by omega, by omega, by omega⟩, ?_⟩
      rw [show (((1 + n + m : Nat) : Int) - 1).toNat = 1 + n + m - 1 by omega]
      refine lcd_filter (keepD fun c => decide (g.B i c ≠ 0)) (by rw [nums_len]; omega) rfl (fun j d hd => ?_) ?_
      · obtain ⟨hj, rfl⟩ := nums1_at hd
        have hj2 : 1 + j < wid m n := by show 1 + j < 1 + n + m + m; omega
        walk_at "ev"
        rw [eqv_fr]
        refine ⟨?_, ?_⟩
        · show (!decide (g.B i (1 + j) = 0)) = decide (g.B i (1 + j) ≠ 0)
          by_cases z : g.B i (1 + j) = 0
          · rw [decide_eq_true z, decide_eq_false (fun y => y z)]; rfl
          · rw [decide_eq_false z, decide_eq_true z]; rfl
        · split
          · walk_at "ev"
            rfl
          · rfl
      rw [kept_nums]
      have step : ∀ l, kept (1 + n + m) (fun c => decide (g.B i c ≠ 0)) = l → wf (1 + n + m) f (i + 1) = (match l with | [] => g | s :: _ => ⟨piv g.B i s, pivB g.β i s⟩) := fun l hk => by
        show (if 1 + n + m ≤ (wf (1 + n + m) f i).β i then (match kept (1 + n + m) (fun c => decide ((wf (1 + n + m) f i).B i c ≠ 0)) with
          | [] => wf (1 + n + m) f i
          | s :: _ => ⟨piv (wf (1 + n + m) f i).B i s, pivB (wf (1 + n + m) f i).β i s⟩) else wf (1 + n + m) f i) = _
        rw [← eg, if_pos hb, hk]
      cases hk : kept (1 + n + m) (fun c => decide (g.B i c ≠ 0)) with
      | nil =>
        walk_at "ev"
        refine ite_dec (fun h => absurd h (by show ¬ (0 : Int) < 0; omega)) (fun h => ?_)
        walk_at "ev"
        exact stop ⟨_, _, _, rfl, (step _ hk).symm⟩
      | cons s l =>
        obtain ⟨k1, k2, _⟩ := kept_first hk
        have hz : g.B i s ≠ 0 := of_decide_eq_true k2
        have G1 := Fg.turn hi hb k1.1 k1.2 hz
        have hs2 : s < wid m n := by show s < 1 + n + m + m; omega
        have hq : ∀ j, sz 1000 (g.B i j / g.B i s) := fun j => by
          have h : sz 400 (piv g.B i s i j) := (Tab.sz S G1.good.tab hi j).mono (by decide)
          have e : piv g.B i s i j = g.B i j / g.B i s := by
            show (if i = i then _ else _) = _
            rw [if_pos rfl]
          rw [e] at h
          exact h.mono (by decide)
        walk_at "ev"
        refine ite_dec (fun h => ?_) (fun h => absurd (by show (0 : Int) < ((l.map _).length + 1 : Nat); omega) h)
        walk_at "ev"
        refine ⟨_, _, _, rfl, rfl, atI_head, ?_⟩
        walk_at "ev"
        refine ⟨by omega, hw, hi, hs2, hz, fun i' j hi' _ => Good.szs Fg.good S hi', fun j _ => hq j, ?_⟩
        exact stop ⟨_, _, _, rfl, (step _ hk).symm⟩
    · walk_at "ev"
      refine stop ⟨_, _, _, rfl, ?_⟩
      rw [eg]
      show _ = (if 1 + n + m ≤ (wf (1 + n + m) f i).β i then _ else _)
      rw [if_neg (by rw [← eg]; omega)]
  · obtain ⟨g, d2, d3, e, eg⟩ := hp.go
    subst e eg
    walk_at "ev"
    exact p
end
end Cs
set_option Elab.async false
set_option linter.all false
set_option maxRecDepth 100000
set_option maxHeartbeats 1200000
/-! The first frame. -/
namespace Cs
open PySem PySem.Spec PyProof.Rows L2 StX Dl Mx
local macro_rules | `(tactic| walk_at "ev1") => `(tactic| first
  | with_reducible refine w_seq ?_
  | with_reducible refine ite_true' ?_
  | with_reducible refine ite_false' ?_
  | with_reducible refine w_next ?_
  | with_reducible refine w_ret ?_
  | with_reducible refine w_set ?_
  | with_reducible refine w_par ?_
  | with_reducible refine w_par3 ?_
  | with_reducible refine w_drop ?_
  | with_reducible refine w_ifS ?_
  | refine w_var rfl ?_
  | with_reducible refine w_cd (zeroR (by assumption)) ?_
  | with_reducible refine w_cd (oneR (by assumption)) ?_
  | with_reducible refine w_c ?_
  | with_reducible refine w_yes ?_
  | with_reducible refine w_cons ?_
  | with_reducible refine w_star ?_
  | with_reducible refine w_nil ?_
  | with_reducible refine w_tup ?_
  | with_reducible refine w_lst ?_
  | with_reducible refine w_neg ?_
  | with_reducible refine w_if ?_
  | with_reducible refine w_test ?_
  | with_reducible refine w_B ?_
  | with_reducible refine w_not ?_
  | with_reducible refine w_notV ?_
  | with_reducible refine w_and ?_
  | with_reducible refine w_or ?_
  | with_reducible refine w_andV ?_
  | with_reducible refine w_orV ?_
  | with_reducible refine w_op od_I0 ?_
  | with_reducible refine w_op od_I ?_
  | with_reducible refine w_op od_ix ?_
  | with_reducible refine w_op od_ixL ?_
  | with_reducible refine w_op od_ixT ?_
  | with_reducible refine w_op od_eq ?_
  | with_reducible refine w_op od_ne ?_
  | with_reducible refine w_op od_isN ?_
  | with_reducible refine w_op od_notN ?_
  | with_reducible refine w_op od_cat ?_
  | with_reducible refine w_op od_catA ?_
  | with_reducible refine w_op od_rep ?_
  | with_reducible refine w_op od_repN ?_
  | with_reducible refine w_op od_eqD ?_
  | with_reducible refine w_op od_neD ?_
  | with_reducible refine w_op od_in ?_
  | with_reducible refine w_op od_notInD ?_
  | with_reducible refine w_slL ?_
  | with_reducible refine w_slT ?_
  | with_reducible refine w_noPart ?_
  | with_reducible refine w_some ?_
  | with_reducible refine w_call ?_
  | with_reducible refine w_cb ca_len ?_
  | with_reducible refine w_cb ca_len_str ?_
  | with_reducible refine w_cb ca_list ?_
  | with_reducible refine w_cb ca_tuple ?_
  | with_reducible refine w_cb ca_abs ?_
  | with_reducible refine w_cb ca_int ?_
  | with_reducible refine w_cb ca_all ?_
  | with_reducible refine w_cb ca_repr ?_
  | with_reducible refine w_lc ?_
  | with_reducible refine w_for ?_
  | with_reducible refine w_meth ?_
  | with_reducible refine w_prop ?_
  | with_reducible refine w_mk ?_
  | with_reducible refine w_dc ?_
  | with_reducible refine w_dget2 ?_
  | with_reducible refine w_lstRg ?_
  | with_reducible refine w_cb ca_isi ?_
  | with_reducible refine w_cb ca_isC ?_
  | with_reducible refine w_cb ca_divmod ?_
  | with_reducible refine w_op od_inSign ?_
  | with_reducible refine i_enumA ?_
  | with_reducible refine i_zipTL ?_
  | with_reducible refine i_enumZip ?_
  | with_reducible refine i_zipTT ?_
  | with_reducible refine g_tup ?_
  | refine ⟨_, rfl, rfl, ?_⟩
  | with_reducible refine g_cons ?_
  | with_reducible refine g_name (by decide) ?_
  | with_reducible refine g_nil ?_
  | with_reducible refine w_asg (js := List.range 40) ?_
  | refine ⟨okEq_fr _, okEq_fr _, ?_⟩
  | with_reducible refine i_list ?_
  | with_reducible refine i_tup ?_
  | with_reducible refine i_rng1 ?_
  | with_reducible refine i_rng2 ?_
  | with_reducible refine i_enum ?_
  | with_reducible refine i_zip ?_
  | with_reducible refine i_str ?_
  | refine ⟨Nat.le_of_ble_eq_true rfl, ?_⟩
  | refine ⟨_, rfl, ?_⟩
  | refine ⟨_, _, rfl, ?_⟩
  | refine ⟨_, _, _, rfl, ?_⟩
  | refine ⟨_, _, _, _, rfl, rfl, rfl, ?_⟩
  | refine ⟨_, _, rfl, by decide, ?_⟩
  | refine ⟨_, _, rfl, rfl, ?_⟩
  | refine ⟨_, _, _, rfl, rfl, rfl, ?_⟩
  | refine ⟨_, _, _, rfl, rfl, ?_⟩
  | refine ⟨_, _, _, rfl, rfl, seqD_atI (by first | assumption | omega), ?_⟩
  | refine ⟨_, _, _, _, rfl, ?_⟩
  | refine ⟨_, _, _, _, _, rfl, ?_⟩
  | refine ⟨rfl, ?_⟩
  | refine ⟨by decide +kernel, ?_⟩)
local macro_rules | `(tactic| walk_at "ev") => `(tactic| repeat walk_at "ev1")
/-- whole numbers as fractions -/
def numD (m n : Nat) (A : Nat → Nat → Int) : List D := seqD m fun i => .lst (rowD n fun j => (A i j : Rat))
def bndD (m : Nat) (b : Nat → Int) : List D := rowD m fun i => (b i : Rat)
def S_begun : PS1 := fun ds P => ∃ (m n : Nat) (A : Nat → Nat → Int) (b : Nat → Int), ds = [.lst (numD m n A), .lst (bndD m b)] ∧ Small m n A b ∧ P (.lst (rowsD m (wid m n) (M0 m n A b)))
theorem M0_row {m n : Nat} {A : Nat → Nat → Int} {b : Nat → Int} (i : Nat) : fr ((sg b i : Rat) * (b i : Rat)) :: (rowD n (fun j => (sg b i : Rat) * (A i j : Rat)) ++ (rowD m (fun k => if i = k then (sg b i : Rat) else 0) ++ (rowD m (fun k => if i = k then (1 : Rat) else 0) ++ []))) = rowD (wid m n) (M0 m n A b i) := by
  refine seqD_ext ?_ fun j hj => ?_
  · simp only [List.length_cons, List.length_append, List.length_nil]
    unfold rowD
    simp only [seqD_len]
    show n + (m + (m + 0)) + 1 = 1 + n + m + m
    omega
  · have hj' : j < 1 + n + m + m := hj
    unfold rowD
    by_cases h0 : j = 0
    · subst h0
      rw [M0_zero]
      rfl
    · obtain ⟨j1, rfl⟩ : ∃ j1, j = j1 + 1 := ⟨j - 1, by omega⟩
      rw [List.getElem?_cons_succ]
      by_cases h1 : j1 < n
      · rw [List.getElem?_append_left (by rw [seqD_len]; exact h1), seqD_get h1, Nat.add_comm j1 1, M0_x i h1]
      · rw [List.getElem?_append_right (by rw [seqD_len]; omega), seqD_len]
        by_cases h2 : j1 - n < m
        · rw [List.getElem?_append_left (by rw [seqD_len]; exact h2), seqD_get h2]
          rw [show j1 + 1 = 1 + n + (j1 - n) by omega, M0_spare i h2]
        · rw [List.getElem?_append_right (by rw [seqD_len]; omega), seqD_len, List.append_nil, seqD_get (by omega)]
          rw [show j1 + 1 = 1 + n + m + (j1 - n - m) by omega, M0_fill]
theorem seqD_snoc (n : Nat) (f : Nat → D) : seqD n f ++ [f n] = seqD (n + 1) f := by
  unfold seqD
  rw [List.range_succ, List.map_append]
  rfl
section
variable {Pr : Program} {w : World} {K : PySem.W.Frag} {mg : Str → Option Value} {base : Heap}
theorem sc_begun : FnScope ["numbers", "bounds", "many", "rows", "place", "row", "bound", "sign", "spare", "fill", "index", "part"] ["numbers", "bounds"] (defScope s_begun) := ⟨rfl, rfl, rfl, by decide +kernel, rfl, by decide +kernel, by decide +kernel⟩
theorem O_begun (T : Tx K mg) (O_times : OkD Pr w K mg base 3 "times" ["one", "other"] S_times) : OkD Pr w K mg base 4 "begun" ["numbers", "bounds"] S_begun := by
  refine ok_mk T.f_begun sc_begun (fun ds P ⟨m, n, A, b, e, _⟩ => by rw [e]; rfl) (fun f cdv A outer s H E hr => ⟨_, 
    (pss_cons (ps_par (i := 2) (j := 3) rfl sc_begun.nd rfl rfl (by decide) rfl rfl (pa_cons (pe_callB (kcall_len K) rfl T.z_len PySem.boot_len (pa_cons (pv 0) pa_nil)) (pa_cons (pe_lst pa_nil) pa_nil)) (by rfl))
      (pss_cons (ps_for PassesOwn.never rfl (kpi_enumZip K T.z_enumerate T.z_zip (pa_cons (pv 0) (pa_cons (pv 1) pa_nil))) (kpg_tup K (n := 2) (pgs_cons (pg_nameA (i := 4) sc_begun.nd) (pgs_cons (kpg_tup K (n := 2) (pgs_cons (pg_nameA (i := 5) sc_begun.nd) (pgs_cons (pg_nameA (i := 6) sc_begun.nd) pgs_nil))) pgs_nil))) (pss_cons (ps_setA (i := 7) sc_begun.nd (pe_ifExp (pt_cmpR op_lt (pe_ix (kix_seq K) (pv 6) pe_int (fun _ _ => rfl)) pe_int (nomark _)) (pe_tup (pa_cons (pe_op op_sub pe_int pe_int) (pa_cons pe_int pa_nil))) (pe_globR T.g_ONE)))
      (pss_cons (ps_setLc (i := 8) (own := [("index", 10)]) rfl sc_begun.nd rfl rfl (sw_true rfl rfl rfl (by decide +kernel)) (pi_range1 rfl T.z_range (pa_cons (pv 2) pa_nil)) (blkOk_by (by kernel_rfl)) (by intro _ _ _ _ _; exact pg_nameA (i := 10) sc_begun.nd) (by intro _ _ _ _ _; exact pts_nil) (by intro _ _ _ _ _; exact (pe_ifExp (pt_cmpR op_eq (pv 10) (pv 4) (nomark _)) (pv 7) (pe_globR T.g_ZERO))))
      (pss_cons (ps_setLc (i := 9) (own := [("index", 10)]) rfl sc_begun.nd rfl rfl (sw_true rfl rfl rfl (by decide +kernel)) (pi_range1 rfl T.z_range (pa_cons (pv 2) pa_nil)) (blkOk_by (by kernel_rfl)) (by intro _ _ _ _ _; exact pg_nameA (i := 10) sc_begun.nd) (by intro _ _ _ _ _; exact pts_nil) (by intro _ _ _ _ _; exact (pe_ifExp (pt_cmpR op_eq (pv 10) (pv 4) (nomark _)) (pe_globR T.g_ONE) (pe_globR T.g_ZERO))))
      (pss_one (ps_expr (kpe_append K (pv 3) (pa_cons (pe_lst (pa_cons (pe_ok O_times (hr.mono (by decide)) (pa_cons (pv 7) (pa_cons (pv 6) pa_nil))) (kpa_star K (pe_lc (own := [("part", 11)]) rfl sc_begun.nd (kpi_list K (pv 5)) (blkOk_by (by kernel_rfl)) (by intro _ _ _ _ _; exact pg_nameA (i := 11) sc_begun.nd) (by intro _ _ _ _ _; exact pts_nil) (by intro _ _ _ _ _; exact (pe_ok O_times (hr.mono (by decide)) (pa_cons (pv 7) (pa_cons (pv 11) pa_nil))))) (kpa_star K (pv 8) (kpa_star K (pv 9) pa_nil))))) pa_nil))))))))
      (pss_one (ps_ret (pv 3))))),
    fun ds P ⟨m, n, A, b, e, S, p⟩ => ?_⟩) fun _ _ _ _ _ _ us hl => match us, hl with | [_, _], _ => rfl
  subst e
  have hm5 := S.m5
  have hn6 := S.n6
  refine w_seq (w_parOwn ?_)
  walk_at "ev"
  have hpair : pairs (numD m n A) (bndD m b) = seqD m fun i => .tup [.lst (rowD n fun j => (A i j : Rat)), fr (b i : Rat)] := pairs_seq m _ _
  rw [hpair, enum_seq]
  refine for_seq [4, 5, 6] (fun i ρ => Stop (∃ ds d4 d5 d6 d7 d8 d9, ρ = [.dat (.lst (numD m n A)), .dat (.lst (bndD m b)), .dat (.int (m : Nat)), .own ds, d4, d5, d6, d7, d8, d9, .any, .any] ∧ ds = seqD i fun i => .lst (rowD (wid m n) (M0 m n A b i)))) (stop ⟨[], .any, .any, .any, .any, .any, .any, ?_, rfl⟩) (fun i ρ hi hp => ?_) (fun ρ hp => ?_)
  · have e : ((numD m n A).length : Int) = (m : Int) := by unfold numD; rw [seqD_len]
    show [_, _, Sl.dat (.int ((numD m n A).length : Int)), _, _, _, _, _, _, _, _, _] = _
    rw [e]
  · obtain ⟨ds, d4, d5, d6, d7, d8, d9, e, eg⟩ := hp.go
    subst e
    have hsz : sz 4000 (sg b i : Rat) := sz_int (by rcases sg_two (b := b) i with z | z <;> rw [z] <;> exact Nat.one_lt_two_pow (by decide)) (by decide)
    refine g_tup ⟨_, rfl, rfl, g_cons (g_name (by decide) (g_cons (g_tup ⟨_, rfl, rfl, g_cons (g_name (by decide) (g_cons (g_name (by decide) (g_nil (g_nil ?_)))))⟩)))⟩
    refine w_seq (w_set (w_hide (d := fr (sg b i : Rat)) ?_ ?_))
    · walk_at "ev"
      refine ite_dec (fun h => ?_) (fun h => ?_)
      · have hb : b i < 0 := by rw [Rat.num_intCast] at h; exact h
        have e : (sg b i : Rat) = ((-1 : Int) : Rat) := by unfold sg; rw [if_pos hb]
        walk_at "ev"
        refine ⟨?_, rfl⟩
        rw [e, fr_int]
        rfl
      · have hb : ¬ b i < 0 := fun z => h (by rw [Rat.num_intCast]; exact z)
        have e : (sg b i : Rat) = ((1 : Int) : Rat) := by unfold sg; rw [if_neg hb]
        walk_at "ev"
        refine ⟨?_, rfl⟩
        rw [e]
        rfl
    walk_at "ev"
    refine ⟨by omega, ?_⟩
    rw [show ((m : Nat) : Int).toNat = m by omega, nums_seq]
    refine lcd_seq (fun k => fr (if i = k then (sg b i : Rat) else 0)) (by omega) rfl (fun k hk => ?_) ?_
    · walk_at "ev"
      refine ite_dec (fun h => ?_) (fun h => ?_)
      · have e : i = k := by injection h with h; omega
        walk_at "ev"
        exact ⟨by rw [if_pos e], rfl⟩
      · have e : i ≠ k := fun z => h (by rw [z, Int.zero_add])
        walk_at "ev"
        exact ⟨by rw [if_neg e], rfl⟩
    walk_at "ev"
    refine ⟨by omega, ?_⟩
    rw [show ((m : Nat) : Int).toNat = m by omega, nums_seq]
    refine lcd_seq (fun k => fr (if i = k then (1 : Rat) else 0)) (by omega) rfl (fun k hk => ?_) ?_
    · walk_at "ev"
      refine ite_dec (fun h => ?_) (fun h => ?_)
      · have e : i = k := by injection h with h; omega
        walk_at "ev"
        exact ⟨by rw [if_pos e], rfl⟩
      · have e : i ≠ k := fun z => h (by rw [z, Int.zero_add])
        walk_at "ev"
        exact ⟨by rw [if_neg e], rfl⟩
    refine w_append rfl ?_
    have szn : ∀ {z : Int}, z.natAbs ≤ 14 → sz 4000 (z : Rat) := fun h => sz_int (Nat.lt_of_le_of_lt h (Nat.lt_of_lt_of_le (by decide : 14 < 2 ^ 4) (two_pow_le (by decide)))) (by decide)
    walk_at "ev"
    refine ⟨hsz, szn (S.b i hi), ?_⟩
    walk_at "ev"
    refine lcd_seq (fun j => fr ((sg b i : Rat) * (A i j : Rat))) (by omega) rfl (fun j hj => ?_) ?_
    · walk_at "ev"
      exact ⟨hsz, szn (S.a i j hi hj), rfl, rfl⟩
    walk_at "ev"
    have hrow := M0_row (m := m) (n := n) (A := A) (b := b) i
    unfold rowD at hrow
    rw [hrow]
    refine ⟨by rw [seqD_len]; show 1 + n + m + m ≤ 100000; omega, ds, rfl, by rw [eg, seqD_len]; omega, ?_⟩
    exact stop ⟨_, _, _, _, _, _, _, rfl, by rw [eg]; exact seqD_snoc i _⟩
  · obtain ⟨ds, d4, d5, d6, d7, d8, d9, e, eg⟩ := hp.go
    subst e eg
    refine w_ret (w_pubE (i := 3) rfl ?_)
    walk_at "ev"
    exact p
end
end Cs
set_option Elab.async false
set_option linter.all false
set_option maxRecDepth 100000
set_option maxHeartbeats 1200000
/-! Small questions about values; all rows of signs. -/
namespace Cs
open PySem PySem.Spec PyProof.Rows L2 StX Dl Mx
theorem ite_nt {A B : Prop} (h : B) : if (!true) = true then A else B := by rw [if_neg (by decide)]; exact h
theorem ite_nf {A B : Prop} (h : A) : if (!false) = true then A else B := by rw [if_pos (by decide)]; exact h
local macro_rules | `(tactic| walk_at "ev1") => `(tactic| first
  | with_reducible refine w_seq ?_
  | with_reducible refine ite_true' ?_
  | with_reducible refine ite_false' ?_
  | with_reducible refine ite_nt ?_
  | with_reducible refine ite_nf ?_
  | with_reducible refine w_next ?_
  | with_reducible refine w_ret ?_
  | with_reducible refine w_set ?_
  | with_reducible refine w_par ?_
  | with_reducible refine w_par3 ?_
  | with_reducible refine w_drop ?_
  | with_reducible refine w_ifS ?_
  | refine w_var rfl ?_
  | with_reducible refine w_cd (zeroR (by assumption)) ?_
  | with_reducible refine w_cd (oneR (by assumption)) ?_
  | with_reducible refine w_c ?_
  | with_reducible refine w_yes ?_
  | with_reducible refine w_cons ?_
  | with_reducible refine w_star ?_
  | with_reducible refine w_nil ?_
  | with_reducible refine w_tup ?_
  | with_reducible refine w_lst ?_
  | with_reducible refine w_neg ?_
  | with_reducible refine w_if ?_
  | with_reducible refine w_test ?_
  | with_reducible refine w_B ?_
  | with_reducible refine w_not ?_
  | with_reducible refine w_notV ?_
  | with_reducible refine w_and ?_
  | with_reducible refine w_or ?_
  | with_reducible refine w_andV ?_
  | with_reducible refine w_orV ?_
  | with_reducible refine w_op od_I0 ?_
  | with_reducible refine w_op od_I ?_
  | with_reducible refine w_op od_ix ?_
  | with_reducible refine w_op od_ixL ?_
  | with_reducible refine w_op od_ixT ?_
  | with_reducible refine w_op od_eq ?_
  | with_reducible refine w_op od_ne ?_
  | with_reducible refine w_op od_isN ?_
  | with_reducible refine w_op od_notN ?_
  | with_reducible refine w_op od_cat ?_
  | with_reducible refine w_op od_catA ?_
  | with_reducible refine w_op od_rep ?_
  | with_reducible refine w_op od_repN ?_
  | with_reducible refine w_op od_eqD ?_
  | with_reducible refine w_op od_neD ?_
  | with_reducible refine w_op od_in ?_
  | with_reducible refine w_op od_notInD ?_
  | with_reducible refine w_slL ?_
  | with_reducible refine w_slT ?_
  | with_reducible refine w_noPart ?_
  | with_reducible refine w_some ?_
  | with_reducible refine w_call ?_
  | with_reducible refine w_cb ca_len ?_
  | with_reducible refine w_cb ca_len_str ?_
  | with_reducible refine w_cb ca_list ?_
  | with_reducible refine w_cb ca_tuple ?_
  | with_reducible refine w_cb ca_abs ?_
  | with_reducible refine w_cb ca_int ?_
  | with_reducible refine w_cb ca_all ?_
  | with_reducible refine w_cb ca_repr ?_
  | with_reducible refine w_lc ?_
  | with_reducible refine w_lc2 ?_
  | with_reducible refine w_for ?_
  | with_reducible refine w_meth ?_
  | with_reducible refine w_prop ?_
  | with_reducible refine w_mk ?_
  | with_reducible refine w_dc ?_
  | with_reducible refine w_dget2 ?_
  | with_reducible refine w_lstRg ?_
  | with_reducible refine w_cb ca_isi ?_
  | with_reducible refine w_cb ca_isC ?_
  | with_reducible refine w_cb ca_divmod ?_
  | with_reducible refine w_op od_inSign ?_
  | with_reducible refine i_enumA ?_
  | with_reducible refine i_zipTL ?_
  | with_reducible refine i_enumZip ?_
  | with_reducible refine i_zipTT ?_
  | with_reducible refine g_tup ?_
  | refine ⟨_, rfl, rfl, ?_⟩
  | with_reducible refine g_cons ?_
  | with_reducible refine g_name (by decide) ?_
  | with_reducible refine g_nil ?_
  | with_reducible refine w_asg (js := List.range 40) ?_
  | refine ⟨okEq_fr _, okEq_fr _, ?_⟩
  | with_reducible refine i_list ?_
  | with_reducible refine i_tup ?_
  | with_reducible refine i_rng1 ?_
  | with_reducible refine i_rng2 ?_
  | with_reducible refine i_enum ?_
  | with_reducible refine i_zip ?_
  | with_reducible refine i_str ?_
  | refine ⟨Nat.le_of_ble_eq_true rfl, ?_⟩
  | refine ⟨_, rfl, ?_⟩
  | refine ⟨_, _, rfl, ?_⟩
  | refine ⟨_, _, _, rfl, ?_⟩
  | refine ⟨_, _, _, _, rfl, rfl, rfl, ?_⟩
  | refine ⟨_, _, rfl, by decide, ?_⟩
  | refine ⟨_, _, rfl, rfl, ?_⟩
  | refine ⟨_, _, _, rfl, rfl, rfl, ?_⟩
  | refine ⟨_, _, _, rfl, rfl, ?_⟩
  | refine ⟨_, _, _, rfl, rfl, seqD_atI (by first | assumption | omega), ?_⟩
  | refine ⟨_, _, _, _, rfl, ?_⟩
  | refine ⟨_, _, _, _, _, rfl, ?_⟩
  | refine ⟨rfl, ?_⟩
  | refine ⟨by decide +kernel, ?_⟩)
local macro_rules | `(tactic| walk_at "ev") => `(tactic| repeat walk_at "ev1")
local macro_rules | `(tactic| walk_at "ev1") => `(tactic| first
  | with_reducible refine w_chain od_I0 od_I0 ?_)
/-- a comprehension of truth values that are all true -/
theorem lcd_trues {K : PySem.W.Frag} {P : PD} {ρ1 : Dl.Env} {g : TG} {tt : TT} {te : TE} {vs : List Nat} {ds : List D} (hn : ds.length ≤ 100000) (hw : wipeS ρ1 vs = ρ1)
    (h : ∀ (i : Nat) d, ds[i]? = some d → wG K vs g d ρ1 fun ρ3 => wT K tt ρ3 fun b ρ4 => b = true ∧ wE K te ρ4 fun e' ρ5 => e' = .bl true ∧ wipeS ρ5 vs = ρ1) (p : P (.lst ((List.replicate ds.length true).map D.bl)) ρ1) : LcD K g tt te vs P ds ρ1 := by
  refine lcd_to _ (by rw [List.length_map, List.length_replicate]) hn hw (fun i d e hd he => ?_) p
  have he' : e = .bl true := by
    rw [List.getElem?_map, List.getElem?_replicate] at he
    split at he
    · exact (Option.some.inj he).symm
    · exact nomatch he
  subst he'
  exact h i d hd
theorem all_trues (n : Nat) : (List.replicate n true).all id = true := by
  rw [List.all_eq_true]
  intro b hb
  exact (List.eq_of_mem_replicate hb)
/-! ### signs -/
def marks : Nat → List (List Int)
  | 0 => [[]]
  | n + 1 => (marks n).flatMap fun r => [r ++ [-1], r ++ [1]]
def sgD (r : List Int) : D := .tup (r.map D.int)
theorem marks_len : ∀ n, (marks n).length = 2 ^ n
  | 0 => rfl
  | n + 1 => by
    show ((marks n).flatMap fun r => [r ++ [-1], r ++ [1]]).length = _
    have : ∀ L : List (List Int), (L.flatMap fun r => [r ++ [-1], r ++ [1]]).length = 2 * L.length := fun L => by
      induction L with
      | nil => rfl
      | cons r L ih => rw [List.flatMap_cons, List.length_append, ih, List.length_cons (as := L)]; show 2 + 2 * L.length = _; omega
    rw [this, marks_len n, Nat.pow_succ]; omega
theorem marks_mem : ∀ {n : Nat} {r : List Int}, r ∈ marks n → r.length = n ∧ ∀ i ∈ r, i = 1 ∨ i = -1
  | 0, r, h => by
    obtain rfl : r = [] := by simpa [marks] using h
    exact ⟨rfl, fun i hi => nomatch hi⟩
  | n + 1, r, h => by
    obtain ⟨q, hq, hr⟩ := List.mem_flatMap.mp (show r ∈ (marks n).flatMap fun r => [r ++ [-1], r ++ [1]] from h)
    obtain ⟨h1, h2⟩ := marks_mem hq
    rcases (show r = q ++ [-1] ∨ r = q ++ [1] by simpa using hr) with e | e <;> subst e
    all_goals
      refine ⟨by rw [List.length_append, h1]; rfl, fun i hi => ?_⟩
      rcases List.mem_append.mp hi with z | z
      · exact h2 i z
      · obtain rfl := List.mem_singleton.mp z
        simp
theorem accs_list {α : Type} (g : α → List D) : ∀ L : List α, accs (fun i => (L[i]?).elim [] g) L.length = L.flatMap g
  | [] => rfl
  | a :: L => by
    unfold accs
    rw [List.length_cons, List.range_succ_eq_map, List.flatMap_cons, List.flatMap_map, List.flatMap_cons]
    have h := accs_list g L
    unfold accs at h
    rw [← h]
    rfl
theorem accs_len {f : Nat → List D} {c : Nat} (h : ∀ i, (f i).length ≤ c) : ∀ i, (accs f i).length ≤ i * c
  | 0 => Nat.zero_le _
  | i + 1 => by
    rw [accs_succ, List.length_append, Nat.succ_mul]
    have := accs_len h i
    have := h i
    omega
/-! ### promises -/
def letters : Str := "abcdefghijklmnopqrstuvwxyz"
def nameOk (x : Str) : Prop := 1 ≤ x.length ∧ x.length ≤ 8 ∧ ∀ c ∈ x.cps.toList, c ∈ letters.cps.toList
def stD (x : Int × Int) : D := .tup [.int x.1, .int x.2]
def S_is_whole : PS1 := fun ds P => ∃ i : Int, ds = [.int i] ∧ P (.bl true)
def S_is_integer : PS1 := fun ds P => ∃ i a b : Int, ds = [.int i, .int a, .int b] ∧ a ≤ i ∧ i ≤ b ∧ P (.bl true)
def S_is_name : PS1 := fun ds P => ∃ x : Str, ds = [.str x] ∧ nameOk x ∧ P (.bl true)
def S_is_tuple_of : PS1 := fun ds P => ∃ (es : List D) (n : Nat), ds = [.tup es, .int (n : Nat)] ∧ es.length = n ∧ P (.bl true)
def S_is_stretch : PS1 := fun ds P => ∃ (x : Int × Int) (a b : Int), ds = [stD x, .int a, .int b] ∧ a ≤ x.1 ∧ x.1 ≤ x.2 ∧ x.2 ≤ b ∧ P (.bl true)
def S_is_end_stretch : PS1 := fun ds P => ∃ (x : Int × Int), ds = [stD x] ∧ -10000 ≤ x.1 ∧ x.1 ≤ x.2 ∧ x.2 ≤ 10000 ∧ P (.bl true)
def S_signs_of : PS1 := fun ds P => ∃ n : Nat, ds = [.int (n : Nat)] ∧ n ≤ 10 ∧ P (.lst ((marks n).map sgD))
def S_are_signs : PS1 := fun ds P => ∃ (n : Nat) (r : List Int), ds = [sgD r, .int (n : Nat)] ∧ r ∈ marks n ∧ n ≤ 10 ∧ P (.bl true)
section
variable {Pr : Program} {w : World} {K : PySem.W.Frag} {mg : Str → Option Value} {base : Heap}
theorem sc_is_whole : FnScope ["value"] ["value"] (defScope s_is_whole) := ⟨rfl, rfl, rfl, by decide +kernel, rfl, by decide +kernel, by decide +kernel⟩
theorem sc_is_integer : FnScope ["value", "least", "greatest"] ["value", "least", "greatest"] (defScope s_is_integer) := ⟨rfl, rfl, rfl, by decide +kernel, rfl, by decide +kernel, by decide +kernel⟩
theorem sc_is_name : FnScope ["value", "sign"] ["value"] (defScope s_is_name) := ⟨rfl, rfl, rfl, by decide +kernel, rfl, by decide +kernel, by decide +kernel⟩
theorem sc_is_tuple_of : FnScope ["value", "many"] ["value", "many"] (defScope s_is_tuple_of) := ⟨rfl, rfl, rfl, by decide +kernel, rfl, by decide +kernel, by decide +kernel⟩
theorem sc_is_stretch : FnScope ["value", "least", "greatest", "end"] ["value", "least", "greatest"] (defScope s_is_stretch) := ⟨rfl, rfl, rfl, by decide +kernel, rfl, by decide +kernel, by decide +kernel⟩
theorem sc_signs_of : FnScope ["many", "rows", "turn", "row", "sign"] ["many"] (defScope s_signs_of) := ⟨rfl, rfl, rfl, by decide +kernel, rfl, by decide +kernel, by decide +kernel⟩
theorem sc_are_signs : FnScope ["value", "many", "sign"] ["value", "many"] (defScope s_are_signs) := ⟨rfl, rfl, rfl, by decide +kernel, rfl, by decide +kernel, by decide +kernel⟩
theorem sc_is_end_stretch : FnScope ["value"] ["value"] (defScope s_is_end_stretch) := ⟨rfl, rfl, rfl, by decide +kernel, rfl, by decide +kernel, by decide +kernel⟩
theorem O_is_whole (T : Tx K mg) : OkD Pr w K mg base 1 "is_whole" ["value"] S_is_whole := by
  refine ok_mk T.f_is_whole sc_is_whole (fun ds P ⟨a, e, _⟩ => by rw [e]; rfl) (fun f cdv A outer s H E hr => ⟨_, 
    (pss_one (ps_ret (pe_and (pe_callB (kcall_isi K) rfl T.z_isinstance (by decide +kernel) (pa_cons (pv 0) (pa_cons (pe_bltn (v := .ty "int") rfl T.z_int (by decide +kernel) rfl) pa_nil))) (pe_one (pe_not (pe_callB (kcall_isi K) rfl T.z_isinstance (by decide +kernel) (pa_cons (pv 0) (pa_cons (pe_bltn (v := .ty "bool") rfl T.z_bool (by decide +kernel) rfl) pa_nil)))))))),
    fun ds P ⟨a, e, p⟩ => ?_⟩) fun _ _ _ _ _ _ us hl => match us, hl with | [_], _ => rfl
  subst e
  walk_at "ev"
  exact p
theorem O_is_integer (T : Tx K mg) (O_is_whole : OkD Pr w K mg base 1 "is_whole" ["value"] S_is_whole) : OkD Pr w K mg base 2 "is_integer" ["value", "least", "greatest"] S_is_integer := by
  refine ok_mk T.f_is_integer sc_is_integer (fun ds P ⟨a, b, c, e, _⟩ => by rw [e]; rfl) (fun f cdv A outer s H E hr => ⟨_, 
    (pss_one (ps_ret (pe_and (pe_ok O_is_whole (hr.mono (by decide)) (pa_cons (pv 0) pa_nil)) (pe_one (pe_chain op_le op_le (pv 1) (pv 0) (pv 2)))))),
    fun ds P ⟨i, a, b, e, h1, h2, p⟩ => ?_⟩) fun _ _ _ _ _ _ us hl => match us, hl with | [_, _, _], _ => rfl
  subst e
  walk_at "ev"
  refine ite_dec (fun _ => ?_) (fun h => absurd h1 h)
  walk_at "ev"
  show P (.bl (decide (i ≤ b)))
  rw [decide_eq_true h2]
  exact p
theorem O_is_tuple_of (T : Tx K mg) : OkD Pr w K mg base 1 "is_tuple_of" ["value", "many"] S_is_tuple_of := by
  refine ok_mk T.f_is_tuple_of sc_is_tuple_of (fun ds P ⟨a, b, e, _⟩ => by rw [e]; rfl) (fun f cdv A outer s H E hr => ⟨_, 
    (pss_one (ps_ret (pe_and (pe_callB (kcall_isi K) rfl T.z_isinstance (by decide +kernel) (pa_cons (pv 0) (pa_cons (pe_bltn (v := .ty "tuple") rfl T.z_tuple (by decide +kernel) rfl) pa_nil))) (pe_one (pe_cmpR op_eq (pe_callB (kcall_len K) rfl T.z_len PySem.boot_len (pa_cons (pv 0) pa_nil)) (pv 1) (nomark _)))))),
    fun ds P ⟨es, n, e, h, p⟩ => ?_⟩) fun _ _ _ _ _ _ us hl => match us, hl with | [_, _], _ => rfl
  subst e
  walk_at "ev"
  rw [h, decide_eq_true rfl]
  exact p
theorem O_is_name (T : Tx K mg) : OkD Pr w K mg base 1 "is_name" ["value"] S_is_name := by
  refine ok_mk T.f_is_name sc_is_name (fun ds P ⟨a, e, _⟩ => by rw [e]; rfl) (fun f cdv A outer s H E hr => ⟨_, 
    (pss_one (ps_ret (pe_and (pe_callB (kcall_isi K) rfl T.z_isinstance (by decide +kernel) (pa_cons (pv 0) (pa_cons (pe_bltn (v := .ty "str") rfl T.z_str (by decide +kernel) rfl) pa_nil))) (pe_and (pe_chain op_le op_le pe_int (pe_callB call_len_str rfl T.z_len PySem.boot_len (pa_cons (pv 0) pa_nil)) (pe_globI T.k_LONGEST_NAME)) (pe_one (pe_callB (kcr_all K) rfl T.z_all (by decide +kernel) (pa_cons (pe_lc (own := [("sign", 1)]) rfl sc_is_name.nd (pi_str (pv 0)) (blkOk_by (by kernel_rfl)) (by intro _ _ _ _ _; exact pg_nameA (i := 1) sc_is_name.nd) (by intro _ _ _ _ _; exact pts_nil) (by intro _ _ _ _ _; exact (pe_cmpR op_in_sign (pv 1) (pe_globS T.k_LETTERS) (by with_unfolding_all rfl)))) pa_nil))))))),
    fun ds P ⟨x, e, ⟨h1, h2, h3⟩, p⟩ => ?_⟩) fun _ _ _ _ _ _ us hl => match us, hl with | [_], _ => rfl
  subst e
  walk_at "ev"
  refine ⟨by omega, ?_⟩
  walk_at "ev"
  refine ite_dec (fun _ => ?_) (fun h => absurd (by omega) h)
  walk_at "ev"
  refine ite_dec (fun _ => ?_) (fun h => absurd (by omega) h)
  walk_at "ev"
  refine lcd_trues ?_ rfl (fun i d hd => ?_) ?_
  · show (x.cps.toList.map _).length ≤ _
    rw [List.length_map]
    have : x.length = x.cps.toList.length := rfl
    omega
  · unfold signsOf at hd
    rw [List.getElem?_map] at hd
    cases hc : x.cps.toList[i]? with
    | none => rw [hc] at hd; exact nomatch hd
    | some c =>
      rw [hc] at hd
      obtain rfl := Option.some.inj hd
      have hm := h3 c (List.mem_of_getElem? hc)
      walk_at "ev"
      exact ⟨by rw [decide_eq_true (show c ∈ (Str.ofString "abcdefghijklmnopqrstuvwxyz").cps.toList from hm)], rfl⟩
  walk_at "ev"
  rw [all_trues]
  exact p
theorem O_is_stretch (T : Tx K mg) (O_is_tuple_of : OkD Pr w K mg base 1 "is_tuple_of" ["value", "many"] S_is_tuple_of) (O_is_integer : OkD Pr w K mg base 2 "is_integer" ["value", "least", "greatest"] S_is_integer) : OkD Pr w K mg base 3 "is_stretch" ["value", "least", "greatest"] S_is_stretch := by
  refine ok_mk T.f_is_stretch sc_is_stretch (fun ds P ⟨a, b, c, e, _⟩ => by rw [e]; rfl) (fun f cdv A outer s H E hr => ⟨_, 
    (pss_cons (ps_if (PW.pt (pw_or (pt_not (pt_val (pe_ok O_is_tuple_of (hr.mono (by decide)) (pa_cons (pv 0) (pa_cons pe_int pa_nil))))) (pw_or1 (pt_not (pt_val (pe_callB (kcr_all K) rfl T.z_all (by decide +kernel) (pa_cons (pe_lc (own := [("end", 3)]) rfl sc_is_stretch.nd (kpi_tup K (pv 0)) (blkOk_by (by kernel_rfl)) (by intro _ _ _ _ _; exact pg_nameA (i := 3) sc_is_stretch.nd) (by intro _ _ _ _ _; exact pts_nil) (by intro _ _ _ _ _; exact (pe_ok O_is_integer (hr.mono (by decide)) (pa_cons (pv 3) (pa_cons (pv 1) (pa_cons (pv 2) pa_nil)))))) pa_nil))))))) (pss_one (ps_ret pe_bl)) pss_nil)
      (pss_one (ps_ret (pe_cmpR op_le (pe_ix (kix_seq K) (pv 0) pe_int (fun _ _ => rfl)) (pe_ix (kix_seq K) (pv 0) pe_int (fun _ _ => rfl)) (nomark _))))),
    fun ds P ⟨x, a, b, e, h1, h2, h3, p⟩ => ?_⟩) fun _ _ _ _ _ _ us hl => match us, hl with | [_, _, _], _ => rfl
  subst e
  walk_at "ev"
  refine lcd_trues (show 2 ≤ 100000 by decide) rfl (fun i d hd => ?_) ?_
  · rcases (show i = 0 ∨ i = 1 by have := (List.getElem?_eq_some_iff.mp hd).1; simp at this; omega) with e | e <;> subst e
    all_goals
      obtain rfl := Option.some.inj hd
      walk_at "ev"
      exact ⟨by omega, by omega, rfl, rfl⟩
  walk_at "ev"
  rw [all_trues]
  walk_at "ev"
  show P (.bl (decide (x.1 ≤ x.2)))
  rw [decide_eq_true h2]
  exact p
theorem O_is_end_stretch (T : Tx K mg) (O_is_stretch : OkD Pr w K mg base 3 "is_stretch" ["value", "least", "greatest"] S_is_stretch) : OkD Pr w K mg base 4 "is_end_stretch" ["value"] S_is_end_stretch := by
  refine ok_mk T.f_is_end_stretch sc_is_end_stretch (fun ds P ⟨a, e, _⟩ => by rw [e]; rfl) (fun f cdv A outer s H E hr => ⟨_, 
    (pss_one (ps_ret (pe_ok O_is_stretch (hr.mono (by decide)) (pa_cons (pv 0) (pa_cons (pe_op op_sub pe_int (pe_globI T.k_MOST_END)) (pa_cons (pe_globI T.k_MOST_END) pa_nil)))))),
    fun ds P ⟨x, e, h1, h2, h3, p⟩ => ?_⟩) fun _ _ _ _ _ _ us hl => match us, hl with | [_], _ => rfl
  subst e
  walk_at "ev"
  exact ⟨by omega, by omega, by omega, p⟩
theorem O_are_signs (T : Tx K mg) (O_is_tuple_of : OkD Pr w K mg base 1 "is_tuple_of" ["value", "many"] S_is_tuple_of) (O_is_whole : OkD Pr w K mg base 1 "is_whole" ["value"] S_is_whole) : OkD Pr w K mg base 2 "are_signs" ["value", "many"] S_are_signs := by
  refine ok_mk T.f_are_signs sc_are_signs (fun ds P ⟨a, b, e, _⟩ => by rw [e]; rfl) (fun f cdv A outer s H E hr => ⟨_, 
    (pss_one (ps_ret (pe_and (pe_ok O_is_tuple_of (hr.mono (by decide)) (pa_cons (pv 0) (pa_cons (pv 1) pa_nil))) (pe_one (pe_callB (kcr_all K) rfl T.z_all (by decide +kernel) (pa_cons (pe_lc (own := [("sign", 2)]) rfl sc_are_signs.nd (kpi_tup K (pv 0)) (blkOk_by (by kernel_rfl)) (by intro _ _ _ _ _; exact pg_nameA (i := 2) sc_are_signs.nd) (by intro _ _ _ _ _; exact pts_nil) (by intro _ _ _ _ _; exact (pe_and (pe_ok O_is_whole (hr.mono (by decide)) (pa_cons (pv 2) pa_nil)) (pe_one (pe_cmpR op_eq (pe_callB call_abs rfl T.z_abs (by decide +kernel) (pa_cons (pv 2) pa_nil)) pe_int (nomark _)))))) pa_nil)))))),
    fun ds P ⟨n, r, e, hr, hn, p⟩ => ?_⟩) fun _ _ _ _ _ _ us hl => match us, hl with | [_, _], _ => rfl
  subst e
  obtain ⟨hl, hm⟩ := marks_mem hr
  unfold sgD
  walk_at "ev"
  refine ⟨by rw [List.length_map]; exact hl, ?_⟩
  walk_at "ev"
  refine lcd_trues (by rw [List.length_map]; omega) rfl (fun i d hd => ?_) ?_
  · rw [List.getElem?_map] at hd
    cases hc : r[i]? with
    | none => rw [hc] at hd; exact nomatch hd
    | some c =>
      rw [hc] at hd
      obtain rfl := Option.some.inj hd
      have h1 := hm c (List.mem_of_getElem? hc)
      walk_at "ev"
      refine ⟨?_, rfl⟩
      rw [show ((c.natAbs : Nat) : Int) = 1 by omega, decide_eq_true rfl]
  walk_at "ev"
  rw [all_trues]
  exact p
theorem O_signs_of (T : Tx K mg) : OkD Pr w K mg base 1 "signs_of" ["many"] S_signs_of := by
  refine ok_mk T.f_signs_of sc_signs_of (fun ds P ⟨a, e, _⟩ => by rw [e]; rfl) (fun f cdv A outer s H E hr => ⟨_, 
    (pss_cons (ps_setA (i := 1) sc_signs_of.nd (pe_lst (pa_cons (pe_tup pa_nil) pa_nil)))
      (pss_cons (ps_for PassesOwn.never rfl (pi_range1 rfl T.z_range (pa_cons (pv 0) pa_nil)) (pg_nameA (i := 2) sc_signs_of.nd) (pss_one (ps_setLc2 (i := 1) (own := [("row", 3), ("sign", 4)]) (vs1 := [4]) rfl sc_signs_of.nd rfl rfl (sw_true rfl rfl rfl (by decide +kernel)) (kpi_list K (pv 1)) (blkOk_by (by kernel_rfl)) (by decide) (by intro _ _ _ _ _; exact pg_nameA (i := 3) sc_signs_of.nd) (by intro _ _ _ _ _; exact pts_nil) (by intro _ _ _ _ _; exact (kpi_tup K (pe_tup (pa_cons (pe_op op_sub pe_int pe_int) (pa_cons pe_int pa_nil))))) (by intro _ _ _ _ _; exact pg_nameA (i := 4) sc_signs_of.nd) (by intro _ _ _ _ _; exact pts_nil) (by intro _ _ _ _ _; exact (pe_tup (kpa_star K (pv 3) (pa_cons (pv 4) pa_nil)))))))
      (pss_one (ps_ret (pv 1))))),
    fun ds P ⟨n, e, hn, p⟩ => ?_⟩) fun _ _ _ _ _ _ us hl => match us, hl with | [_], _ => rfl
  subst e
  walk_at "ev"
  refine ⟨by omega, ?_⟩
  rw [show ((n : Nat) : Int).toNat = n by omega, nums_seq]
  refine for_seq [2] (fun i ρ => Stop (∃ d2, ρ = [.dat (.int (n : Nat)), .dat (.lst ((marks i).map sgD)), d2, .any, .any])) (stop ⟨.any, rfl⟩) (fun i ρ hi hp => ?_) (fun ρ hp => ?_)
  · obtain ⟨d2, e⟩ := hp.go
    subst e
    have hb : (marks i).length ≤ 1024 := by
      rw [marks_len]
      exact Nat.pow_le_pow_right (by omega) (show i ≤ 10 by omega)
    have hlen : ∀ l : Nat, ((((marks i)[l]?).elim [] fun r => [sgD (r ++ [-1]), sgD (r ++ [1])]) : List D).length ≤ 2 := fun l => by
      cases (marks i)[l]? with | none => exact Nat.zero_le _ | some r => exact Nat.le_refl _
    walk_at "ev"
    refine ⟨fun (l : Nat) => ((marks i)[l]?).elim [] fun r => [sgD (r ++ [-1]), sgD (r ++ [1])], fun l hl => ?_, fun l _ => Nat.le_trans (hlen l) (by decide), rfl, by decide, fun l d hd => ?_, ?_⟩
    · have := accs_len hlen l
      rw [List.length_map] at hl
      omega
    · rw [List.getElem?_map] at hd
      cases hc : (marks i)[l]? with
      | none => rw [hc] at hd; exact nomatch hd
      | some r =>
        rw [hc] at hd
        obtain rfl := Option.some.inj hd
        have hfl : ((((marks i)[l]?).elim [] fun r => [sgD (r ++ [-1]), sgD (r ++ [1])]) : List D) = [sgD (r ++ [-1]), sgD (r ++ [1])] := by rw [hc]; rfl
        walk_at "ev"
        refine ⟨by dsimp only; rw [hfl]; rfl, rfl, fun j d1 e hd1 he => ?_⟩
        dsimp only at he
        rw [hfl] at he
        rcases (show j = 0 ∨ j = 1 by have := (List.getElem?_eq_some_iff.mp hd1).1; simp at this; omega) with e | e <;> subst e
        all_goals
          obtain rfl := Option.some.inj hd1
          obtain rfl := Option.some.inj
              he
          walk_at "ev"
          refine ⟨?_, ?_, rfl⟩
          · have h1 := (marks_mem (List.mem_of_getElem? hc)).1
            rw [List.length_append, List.length_map, h1]
            show i + 1 ≤ 100000
            omega
          · unfold sgD
            rw [List.map_append]
            rfl
    · rw [List.length_map, accs_list fun r => [sgD (r ++ [-1]), sgD (r ++ [1])]]
      have e : (marks (i + 1)).map sgD = List.flatMap (fun r => [sgD (r ++ [-1]), sgD (r ++ [1])]) (marks i) := by
        show ((marks i).flatMap fun r => [r ++ [-1], r ++ [1]]).map sgD = _
        rw [List.map_flatMap]
        rfl
      exact stop ⟨.dat (.int (0 + (i : Nat))), by rw [e]; rfl⟩
  · obtain ⟨d2, e⟩ := hp.go
    subst e
    walk_at "ev"
    exact p
end
end Cs
set_option Elab.async false
set_option linter.all false
set_option maxRecDepth 100000
set_option maxHeartbeats 8000000
/-! What is found: values, or weights that bar. -/
namespace Cs
open PySem PySem.Spec PyProof.Rows L2 StX Dl Mx
local macro_rules | `(tactic| walk_at "ev1") => `(tactic| first
  | with_reducible refine w_seq ?_
  | with_reducible refine ite_true' ?_
  | with_reducible refine ite_false' ?_
  | with_reducible refine ite_nt ?_
  | with_reducible refine ite_nf ?_
  | with_reducible refine w_next ?_
  | with_reducible refine w_ret ?_
  | with_reducible refine w_set ?_
  | with_reducible refine w_par ?_
  | with_reducible refine w_par3 ?_
  | with_reducible refine w_drop ?_
  | with_reducible refine w_ifS ?_
  | refine w_var rfl ?_
  | with_reducible refine w_cd (zeroR (by assumption)) ?_
  | with_reducible refine w_cd (oneR (by assumption)) ?_
  | with_reducible refine w_c ?_
  | with_reducible refine w_yes ?_
  | with_reducible refine w_cons ?_
  | with_reducible refine w_star ?_
  | with_reducible refine w_nil ?_
  | with_reducible refine w_tup ?_
  | with_reducible refine w_lst ?_
  | with_reducible refine w_neg ?_
  | with_reducible refine w_if ?_
  | with_reducible refine w_test ?_
  | with_reducible refine w_B ?_
  | with_reducible refine w_not ?_
  | with_reducible refine w_notV ?_
  | with_reducible refine w_and ?_
  | with_reducible refine w_or ?_
  | with_reducible refine w_andV ?_
  | with_reducible refine w_orV ?_
  | with_reducible refine w_op od_I0 ?_
  | with_reducible refine w_op od_I ?_
  | with_reducible refine w_op od_ix ?_
  | with_reducible refine w_op od_ixL ?_
  | with_reducible refine w_op od_ixT ?_
  | with_reducible refine w_op od_eq ?_
  | with_reducible refine w_op od_ne ?_
  | with_reducible refine w_op od_isN ?_
  | with_reducible refine w_op od_notN ?_
  | with_reducible refine w_op od_cat ?_
  | with_reducible refine w_op od_catA ?_
  | with_reducible refine w_op od_rep ?_
  | with_reducible refine w_op od_repN ?_
  | with_reducible refine w_op od_eqD ?_
  | with_reducible refine w_op od_neD ?_
  | with_reducible refine w_op od_in ?_
  | with_reducible refine w_op od_notInD ?_
  | with_reducible refine w_slL ?_
  | with_reducible refine w_slT ?_
  | with_reducible refine w_noPart ?_
  | with_reducible refine w_some ?_
  | with_reducible refine w_call ?_
  | with_reducible refine w_cb ca_len ?_
  | with_reducible refine w_cb ca_len_str ?_
  | with_reducible refine w_cb ca_list ?_
  | with_reducible refine w_cb ca_tuple ?_
  | with_reducible refine w_cb ca_abs ?_
  | with_reducible refine w_cb ca_int ?_
  | with_reducible refine w_cb ca_all ?_
  | with_reducible refine w_cb ca_repr ?_
  | with_reducible refine w_lc ?_
  | with_reducible refine w_lc2 ?_
  | with_reducible refine w_for ?_
  | with_reducible refine w_meth ?_
  | with_reducible refine w_prop ?_
  | with_reducible refine w_mk ?_
  | with_reducible refine w_dc ?_
  | with_reducible refine w_dget2 ?_
  | with_reducible refine w_lstRg ?_
  | with_reducible refine w_cb ca_isi ?_
  | with_reducible refine w_cb ca_isC ?_
  | with_reducible refine w_cb ca_divmod ?_
  | with_reducible refine w_op od_inSign ?_
  | with_reducible refine i_enumA ?_
  | with_reducible refine i_zipTL ?_
  | with_reducible refine i_enumZip ?_
  | with_reducible refine i_zipTT ?_
  | with_reducible refine g_tup ?_
  | refine ⟨_, rfl, rfl, ?_⟩
  | with_reducible refine g_cons ?_
  | with_reducible refine g_name (by decide) ?_
  | with_reducible refine g_nil ?_
  | with_reducible refine w_asg (js := List.range 40) ?_
  | refine ⟨okEq_fr _, okEq_fr _, ?_⟩
  | with_reducible refine i_list ?_
  | with_reducible refine i_tup ?_
  | with_reducible refine i_rng1 ?_
  | with_reducible refine i_rng2 ?_
  | with_reducible refine i_enum ?_
  | with_reducible refine i_zip ?_
  | with_reducible refine i_str ?_
  | refine ⟨Nat.le_of_ble_eq_true rfl, ?_⟩
  | refine ⟨_, rfl, ?_⟩
  | refine ⟨_, _, rfl, ?_⟩
  | refine ⟨_, _, _, rfl, ?_⟩
  | refine ⟨_, _, _, _, rfl, rfl, rfl, ?_⟩
  | refine ⟨_, _, rfl, by decide, ?_⟩
  | refine ⟨_, _, rfl, rfl, ?_⟩
  | refine ⟨_, _, _, rfl, rfl, rfl, ?_⟩
  | refine ⟨_, _, _, rfl, rfl, ?_⟩
  | refine ⟨_, _, _, rfl, rfl, seqD_atI (by first | assumption | omega), ?_⟩
  | refine ⟨_, _, _, _, rfl, ?_⟩
  | refine ⟨_, _, _, _, _, rfl, ?_⟩
  | refine ⟨rfl, ?_⟩
  | refine ⟨by decide +kernel, ?_⟩)
local macro_rules | `(tactic| walk_at "ev") => `(tactic| repeat walk_at "ev1")
local macro_rules | `(tactic| walk_at "wk") => `(tactic| repeat (first | exact True.intro | refine ⟨.inr rfl, ?_⟩ | refine ⟨.inl rfl, ?_⟩))
local macro_rules | `(tactic| walk_at "ev1") => `(tactic| first
  | with_reducible refine w_fldL (by assumption) ?_
  | with_reducible refine w_fldB (by assumption) ?_)
noncomputable def f1 (m n : Nat) (A : Nat → Nat → Int) (b : Nat → Int) : Fr := fin m (1 + n + m) (c1 m n) (F0 m n A b)
noncomputable def p1 (m n : Nat) (A : Nat → Nat → Int) (b : Nat → Int) : Mx.Row := pr m (c1 m n) (f1 m n A b)
noncomputable def f2 (m n : Nat) (A : Nat → Nat → Int) (b : Nat → Int) : Fr := wf (1 + n + m) (f1 m n A b) m
noncomputable def wts (m n : Nat) (A : Nat → Nat → Int) (b : Nat → Int) : Mx.Row := wt n (p1 m n A b)
noncomputable def pnt (m n : Nat) (A : Nat → Nat → Int) (b : Nat → Int) : Mx.Row := fun j => told (f2 m n A b) (1 + j) m
def outD (w p c t : D) : D := .obj COutcome ["word", "point", "cost", "weights"] [w, p, c, t]
section
variable {m n : Nat} {A : Nat → Nat → Int} {b : Nat → Int}
theorem f1_good : Good m (wid m n) (M0 m n A b) (f1 m n A b) ∧ bel (1 + n + m) (p1 m n A b) = [] := F0_good.fin (Nat.le_add_right _ _) (fun j => c1_nn j)
theorem sol_bars (h : p1 m n A b 0 ≠ 0) : Bars m n A b (wts m n A b) := bars_of f1_good.1 f1_good.2 h
theorem f1_flat (h : p1 m n A b 0 = 0) : Flat m n (M0 m n A b) (f1 m n A b) := ⟨f1_good.1, (pr_zero f1_good.1).2 h⟩
theorem f2_flat (h : p1 m n A b 0 = 0) : Flat m n (M0 m n A b) (f2 m n A b) := (f1_flat h).wf m (Nat.le_refl _)
theorem sol_fits (h : p1 m n A b 0 = 0) : Fits m n A b (pnt m n A b) := fits_of (f2_flat h)
theorem pr_none (f : Fr) (j : Nat) : pr m (fun _ => ((0 : Int) : Rat)) f j = 0 := by
  show ((0 : Int) : Rat) - sumTo m (fun i => ((0 : Int) : Rat) * f.B i j) = 0
  rw [sumTo_zero fun i _ => by rw [show ((0 : Int) : Rat) = 0 from rfl]; grind, show ((0 : Int) : Rat) = 0 from rfl]
  grind
theorem fin_none (f : Fr) (N : Nat) : fin m N (fun _ => ((0 : Int) : Rat)) f = f := by
  have h : bel N (pr m (fun _ => ((0 : Int) : Rat)) (it m N (fun _ => ((0 : Int) : Rat)) f 0)) = [] := by
    cases e : bel N (pr m (fun _ => ((0 : Int) : Rat)) (it m N (fun _ => ((0 : Int) : Rat)) f 0)) with
    | nil => rfl
    | cons s l =>
      have h := (bel_cons e).2.2.1
      rw [pr_none] at h
      exact absurd h (by decide +kernel)
  exact fin_at (k := 0) h
theorem flat_rep (d : D) : ∀ k : Nat, (List.replicate k [d]).flatten = List.replicate k d
  | 0 => rfl
  | k + 1 => by rw [List.replicate_succ, List.flatten_cons, flat_rep d k]; rfl
theorem rep_seq (k : Nat) (d : D) : (List.replicate k [d]).flatten = seqD k fun _ => d := by
  rw [flat_rep]
  refine seqD_ext (by rw [List.length_replicate]) fun i hi => ?_
  rw [List.getElem?_replicate, if_pos hi]
def cI (m n : Nat) : Nat → Int := fun j => if j < 1 + n + m then 0 else 1
theorem cI_two (j : Nat) : cI m n j = 0 ∨ cI m n j = 1 := by unfold cI; split <;> simp
theorem cI_c1 : (fun j => (cI m n j : Rat)) = c1 m n := by
  funext j
  show ((if j < 1 + n + m then (0 : Int) else 1 : Int) : Rat) = if j < 1 + n + m then 0 else 1
  split <;> rfl
theorem fills_seq : (seqD (1 + n + m) fun _ => fr 0) ++ (seqD m fun _ => fr 1) = rowD (wid m n) fun j => (cI m n j : Rat) := by
  refine seqD_ext (by rw [List.length_append, seqD_len, seqD_len]) fun j hj => ?_
  have hj' : j < 1 + n + m + m := hj
  show _ = some (fr ((if j < 1 + n + m then (0 : Int) else 1 : Int) : Rat))
  by_cases h : j < 1 + n + m
  · rw [List.getElem?_append_left (by rw [seqD_len]; exact h), seqD_get h, if_pos h]; rfl
  · rw [List.getElem?_append_right (by rw [seqD_len]; omega), seqD_len, seqD_get (by omega), if_neg h]; rfl
/-- a slice of a row -/
theorem cut_seq {N a k : Nat} {f : Nat → D} (h : a + k ≤ N) : Dl.cutD (seqD N f) (some (a : Int)) (some ((a + k : Nat) : Int)) = seqD k fun i => f (a + i) := by
  unfold Dl.cutD
  rw [HT.sIx_nat, HT.sIx_nat, seqD_len, Nat.min_eq_left h, Nat.min_eq_left (show a ≤ N by omega)]
  refine seqD_ext (by rw [List.length_take, List.length_drop, seqD_len]; omega) fun i hi => ?_
  rw [List.getElem?_take, if_pos (by omega), List.getElem?_drop, seqD_get (by omega)]
theorem getD_find (x : Key) (κ : Nat → Key) (δ : Nat → D) : ∀ L : List Nat, getD (L.map κ) (L.map δ) x = (L.find? fun i => decide (κ i = x)).map δ
  | [] => rfl
  | i :: L => by
    rw [List.map_cons, List.map_cons, List.find?_cons]
    show (if κ i = x then some (δ i) else getD (L.map κ) (L.map δ) x) = _
    by_cases h : κ i = x
    · rw [if_pos h, decide_eq_true h]; rfl
    · rw [if_neg h, decide_eq_false h]; exact getD_find x κ δ L
/-- what d.get tells -/
theorem getD_told (f : Fr) (c : Nat) (m : Nat) (hi : ∀ i l, i < m → l < m → f.β i = f.β l → i = l) : (getD ((List.range m).map fun i => (.inl ((f.β i : Nat) : Int) : Key)) (rowD m fun i => f.B i 0) (.inl (c : Int))).getD (fr 0) = fr (told f c m) := by
  unfold rowD seqD
  rw [getD_find, told_sum hi]
  cases h : (List.range m).find? fun i => decide ((.inl ((f.β i : Nat) : Int) : Key) = .inl (c : Int)) with
  | none =>
    have h2 := List.find?_eq_none.mp h
    show fr 0 = _
    rw [sumTo_zero fun i hi => ?_]
    rw [if_neg]
    intro e
    exact h2 i (List.mem_range.mpr hi) (decide_eq_true (by rw [e]))
  | some i =>
    have h2 := List.find?_some h
    have h3 := List.mem_range.mp (List.mem_of_find?_eq_some h)
    have e : f.β i = c := by
      have h4 := of_decide_eq_true h2
      injection h4 with h4
      omega
    show fr (f.B i 0) = _
    rw [sumTo_one (k := i) h3, if_pos e]
    intro l hl hne
    rw [if_neg]
    intro e2
    exact hne (hi l i hl h3 (e2.trans e.symm))
end
def S_solved : PS1 := fun ds P => ∃ (m n : Nat) (A : Nat → Nat → Int) (b : Nat → Int), ds = [.lst (numD m n A), .lst (bndD m b), .lst (rowD n fun _ => 0)] ∧ Small m n A b ∧
  (p1 m n A b 0 ≠ 0 → P (outD (.str "none") .non .non (.tup (rowD m (wts m n A b))))) ∧ (p1 m n A b 0 = 0 → P (outD (.str "best") (.tup (rowD n (pnt m n A b))) (fr 0) (.tup (rowD m fun _ => 0))))
section
variable {Pr : Program} {w : World} {K : PySem.W.Frag} {mg : Str → Option Value} {base : Heap}
theorem sc_solved : FnScope ["numbers", "bounds", "costs", "many", "wide", "basis", "frame", "fills", "prices", "goals", "told", "values", "index", "bound", "row", "column"] ["numbers", "bounds", "costs"] (defScope s_solved) := ⟨rfl, rfl, rfl, by decide +kernel, rfl, by decide +kernel, by decide +kernel⟩
theorem O_solved (T : Tx K mg) (O_Frame_init : OkI Pr w K mg base 1 CFrame ["self", "rows", "basis"] (spI K CFrame ["lines", "basis"] S_Frame)) (O_settled : OkD Pr w K mg base 6 "settled" ["frame", "costs", "columns"] S_settled) (O_without_fills : OkD Pr w K mg base 6 "without_fills" ["frame", "first"] S_without_fills)
    (O_Outcome_init : OkI Pr w K mg base 1 COutcome ["self", "word", "values", "cost", "weights"] (spI K COutcome ["word", "point", "cost", "weights"] S_Outcome)) (O_begun : OkD Pr w K mg base 4 "begun" ["numbers", "bounds"] S_begun) (O_minus : OkD Pr w K mg base 3 "minus" ["one", "other"] S_minus) :
    OkD Pr w K mg base 7 "solved" ["numbers", "bounds", "costs"] S_solved := by
  refine ok_mk T.f_solved sc_solved (fun ds P ⟨m, n, A, b, e, _⟩ => by rw [e]; rfl) (fun f cdv A outer s H E hr => ⟨_, 
    (pss_cons (ps_asg (pe_tup (pa_cons (pe_callB (kcall_len K) rfl T.z_len PySem.boot_len (pa_cons (pv 0) pa_nil)) (pa_cons (pe_callB (kcall_len K) rfl T.z_len PySem.boot_len (pa_cons (pv 2) pa_nil)) pa_nil))) (kpg_tup K (n := 2) (pgs_cons (pg_nameA (i := 3) sc_solved.nd) (pgs_cons (pg_nameA (i := 4) sc_solved.nd) pgs_nil))))
      (pss_cons (ps_setLc (i := 5) (own := [("index", 12), ("bound", 13)]) rfl sc_solved.nd rfl rfl (sw_true rfl rfl rfl (by decide +kernel)) (kpi_enum K T.z_enumerate (pa_cons (pv 1) pa_nil)) (blkOk_by (by kernel_rfl)) (by intro _ _ _ _ _; exact (kpg_tup K (n := 2) (pgs_cons (pg_nameA (i := 12) sc_solved.nd) (pgs_cons (pg_nameA (i := 13) sc_solved.nd) pgs_nil)))) (by intro _ _ _ _ _; exact pts_nil) (by intro _ _ _ _ _; exact (pe_op op_add (pe_op op_add (pe_op op_add pe_int (pv 4)) (pv 12)) (pe_ifExp (pt_cmpR op_lt (pe_ix (kix_seq K) (pv 13) pe_int (fun _ _ => rfl)) pe_int (nomark _)) (pv 3) pe_int))))
      (pss_cons (ps_setA (i := 6) sc_solved.nd (pe_mkD T.g_Frame O_Frame_init (hr.mono (by decide)) (pa_cons (pe_ok O_begun (hr.mono (by decide)) (pa_cons (pv 0) (pa_cons (pv 1) pa_nil))) (pa_cons (pv 5) pa_nil))))
      (pss_cons (ps_setA (i := 7) sc_solved.nd (pe_op op_cat (pe_op op_rep (pe_lst (pa_cons (pe_globR T.g_ZERO) pa_nil)) (pe_op op_add (pe_op op_add pe_int (pv 4)) (pv 3))) (pe_op op_rep (pe_lst (pa_cons (pe_globR T.g_ONE) pa_nil)) (pv 3))))
      (pss_cons (ps_asg (pe_ok O_settled (hr.mono (by decide)) (pa_cons (pv 6) (pa_cons (pv 7) (pa_cons (pe_listRg rfl rfl T.z_list (prg_2 rfl T.z_range pe_int (pe_op op_add (pe_op op_add pe_int (pv 4)) (pv 3)))) pa_nil)))) (kpg_tup K (n := 2) (pgs_cons (pg_nameA (i := 6) sc_solved.nd) (pgs_cons (pg_nameA (i := 8) sc_solved.nd) pgs_nil))))
      (pss_cons (ps_if (pt_cmpR (kop_neD K (by exact hr.units)) (pe_ix (kix_seq K) (pv 8) pe_int (fun _ _ => rfl)) (pe_globR T.g_ZERO) (nomark _)) (pss_one (ps_ret (pe_mkD T.g_Outcome O_Outcome_init (hr.mono (by decide)) (pa_cons pe_str (pa_cons pe_non (pa_cons pe_non (pa_cons (pe_callTy (kcall_tuple K) rfl T.z_tuple (by decide +kernel) (pa_cons (pe_slice (ksl_list K) (pv 8) (po_some (pe_op op_add pe_int (pv 4))) (po_some (pe_op op_add (pe_op op_add pe_int (pv 4)) (pv 3)))) pa_nil)) pa_nil))))))) pss_nil)
      (pss_cons (ps_setA (i := 6) sc_solved.nd (pe_ok O_without_fills (hr.mono (by decide)) (pa_cons (pv 6) (pa_cons (pe_op op_add (pe_op op_add pe_int (pv 4)) (pv 3)) pa_nil))))
      (pss_cons (ps_setA (i := 9) sc_solved.nd (pe_op op_cat (pe_lst (pa_cons (pe_globR T.g_ZERO) (kpa_star K (pv 2) pa_nil))) (pe_op op_rep (pe_lst (pa_cons (pe_globR T.g_ZERO) pa_nil)) (pe_op op_mul pe_int (pv 3)))))
      (pss_cons (ps_asg (pe_ok O_settled (hr.mono (by decide)) (pa_cons (pv 6) (pa_cons (pv 9) (pa_cons (pe_listRg rfl rfl T.z_list (prg_2 rfl T.z_range pe_int (pe_op op_add (pe_op op_add pe_int (pv 4)) (pv 3)))) pa_nil)))) (kpg_tup K (n := 2) (pgs_cons (pg_nameA (i := 6) sc_solved.nd) (pgs_cons (pg_nameA (i := 8) sc_solved.nd) pgs_nil))))
      (pss_cons (ps_if (pt_cmpR op_isN (pv 6) pe_non (nomark _)) (pss_one (ps_ret (pe_mkD T.g_Outcome O_Outcome_init (hr.mono (by decide)) (pa_cons pe_str (pa_cons pe_non (pa_cons pe_non (pa_cons pe_non pa_nil))))))) pss_nil)
      (pss_cons (ps_setA (i := 10) sc_solved.nd (pe_dc (own := [("row", 14), ("column", 15)]) rfl sc_solved.nd (kpi_zip K T.z_zip (pa_cons (kpe_fld K (pv 6)) (pa_cons (kpe_fld K (pv 6)) pa_nil))) (blkOk_by (by kernel_rfl)) (by intro _ _ _ _ _; exact (kpg_tup K (n := 2) (pgs_cons (pg_nameA (i := 14) sc_solved.nd) (pgs_cons (pg_nameA (i := 15) sc_solved.nd) pgs_nil)))) (by intro _ _ _ _ _; exact pts_nil) (by intro _ _ _ _ _; exact (pv 15)) (by intro _ _ _ _ _; exact (pe_ix (kix_seq K) (pv 14) pe_int (fun _ _ => rfl)))))
      (pss_cons (ps_setA (i := 11) sc_solved.nd (pe_callTy (kcall_tuple K) rfl T.z_tuple (by decide +kernel) (pa_cons (pe_lc (own := [("index", 12)]) rfl sc_solved.nd (pi_range1 rfl T.z_range (pa_cons (pv 4) pa_nil)) (blkOk_by (by kernel_rfl)) (by intro _ _ _ _ _; exact pg_nameA (i := 12) sc_solved.nd) (by intro _ _ _ _ _; exact pts_nil) (by intro _ _ _ _ _; exact (pe_dget2 (hu_of hr) (pv 10) (pe_op op_add pe_int (pv 12)) (pe_globR T.g_ZERO) ⟨by rfl, by rfl, by rfl, by rfl⟩))) pa_nil)))
      (pss_one (ps_ret (pe_mkD T.g_Outcome O_Outcome_init (hr.mono (by decide)) (pa_cons pe_str (pa_cons (pv 11) (pa_cons (pe_ok O_minus (hr.mono (by decide)) (pa_cons (pe_globR T.g_ZERO) (pa_cons (pe_ix (kix_seq K) (pv 8) pe_int (fun _ _ => rfl)) pa_nil))) (pa_cons (pe_callTy (kcall_tuple K) rfl T.z_tuple (by decide +kernel) (pa_cons (pe_slice (ksl_list K) (pv 8) (po_some (pe_op op_add pe_int (pv 4))) (po_some (pe_op op_add (pe_op op_add pe_int (pv 4)) (pv 3)))) pa_nil)) pa_nil))))))))))))))))))),
    fun ds P ⟨m, n, A, b, e, S, pn, pb⟩ => ?_⟩) fun _ _ _ _ _ _ us hl => match us, hl with | [_, _, _], _ => rfl
  subst e
  have hm5 := S.m5
  have hn6 := S.n6
  walk_at "ev"
  have l1 : ((numD m n A).length : Int) = (m : Int) := by unfold numD; rw [seqD_len]
  have l2 : ((rowD n fun _ => 0).length : Int) = (n : Int) := by unfold rowD; rw [seqD_len]
  rw [l1, l2]
  unfold bndD rowD
  rw [enum_seq]
  refine lcd_seq (fun i => .int (b0 m n b i : Nat)) (by omega) rfl (fun i hi => ?_) ?_
  · walk_at "ev"
    refine ite_dec (fun h => ?_) (fun h => ?_)
    · have hb : b i < 0 := by rw [Rat.num_intCast] at h; exact h
      walk_at "ev"
      refine ⟨?_, rfl⟩
      show D.int _ = D.int ((1 + n + i + (if b i < 0 then m else 0) : Nat) : Int)
      rw [if_pos hb]
      congr 2
    · have hb : ¬ b i < 0 := fun z => h (by rw [Rat.num_intCast]; exact z)
      walk_at "ev"
      refine ⟨?_, rfl⟩
      show D.int _ = D.int ((1 + n + i + (if b i < 0 then m else 0) : Nat) : Int)
      rw [if_neg hb]
      congr 2
  walk_at "ev"
  refine ⟨S, ?_⟩
  walk_at "ev"
  refine ⟨trivial, ?_⟩
  walk_at "ev"
  refine ⟨⟨by omega, by omega⟩, Nat.le_of_ble_eq_true rfl, ?_⟩
  walk_at "ev"
  refine ⟨⟨by omega, by omega⟩, Nat.le_of_ble_eq_true rfl, ?_⟩
  walk_at "ev"
  rw [show (1 + (n : Int) + (m : Int)).toNat = 1 + n + m by omega, show ((m : Nat) : Int).toNat = m by omega, rep_seq, rep_seq, fills_seq (m := m) (n := n)]
  refine ⟨by rw [seqD_len, seqD_len]; omega, ?_⟩
  walk_at "ev"
  refine ⟨RgOk.of_le (by omega) (by omega) (by omega) (by omega), ?_⟩
  rw [show ((1 : Int) + (n : Int) + (m : Int) - 1).toNat = 1 + n + m - 1 by omega]
  walk_at "ev"
  refine ⟨m, n, A, b, F0 m n A b, cI m n, rfl, S, cI_two, F0_good, ?_⟩
  rw [cI_c1]
  show wG K (List.range 40) (gTup K 2 (gCons (gName 6) (gCons (gName 8) gNil))) (.tup [frameD m (wid m n) (f1 m n A b), .lst (rowD (wid m n) (p1 m n A b))]) _ _
  have hw0 : 0 < wid m n := by show 0 < 1 + n + m + m; omega
  walk_at "ev"
  rw [eqv_fr]
  by_cases hz : p1 m n A b 0 = 0
  · rw [decide_eq_true hz]
    refine ite_false' ?_
    walk_at "ev"
    refine ⟨m, n, A, b, f1 m n A b, rfl, S, f1_flat hz, ?_⟩
    walk_at "ev"
    refine ⟨by rw [List.length_cons, List.length_append, seqD_len]; show n + 0 + 1 ≤ 100000; omega, ?_⟩
    walk_at "ev"
    refine ⟨.inl ⟨by decide, by decide⟩, ?_⟩
    walk_at "ev"
    refine ⟨⟨by omega, by omega⟩, Nat.le_of_ble_eq_true rfl, ?_⟩
    walk_at "ev"
    have hgl : (fr 0 :: ((seqD n fun _ => fr 0) ++ [])) ++ (List.replicate (2 * (m : Int)).toNat [fr 0]).flatten = rowD (wid m n) fun _ => ((0 : Int) : Rat) := by
      rw [rep_seq]
      refine seqD_ext ?_ fun j hj => ?_
      · simp only [List.length_cons, List.length_append, List.length_nil, seqD_len]
        show n + 0 + 1 + (2 * (m : Int)).toNat = 1 + n + m + m
        omega
      · have hj' : j < 1 + n + m + m := hj
        show _ = some (fr 0)
        cases j with
        | zero => rfl
        | succ j =>
          rw [List.cons_append, List.getElem?_cons_succ, List.append_nil]
          by_cases h : j < n
          · rw [List.getElem?_append_left (by rw [seqD_len]; exact h), seqD_get h]
          · rw [List.getElem?_append_right (by rw [seqD_len]; omega), seqD_len, seqD_get (by omega)]
    have hgn : (fr 0 :: ((seqD n fun _ => fr 0) ++ [])).length + (List.replicate (2 * (m : Int)).toNat [fr 0]).flatten.length ≤ 100000 := by
      rw [← List.length_append, hgl]
      unfold rowD
      rw [seqD_len]
      show 1 + n + m + m ≤ 100000
      omega
    refine ⟨hgn, ?_⟩
    rw [hgl]
    walk_at "ev"
    refine ⟨RgOk.of_le (by omega) (by omega) (by omega) (by omega), ?_⟩
    rw [show ((1 : Int) + (n : Int) + (m : Int) - 1).toNat = 1 + n + m - 1 by omega]
    walk_at "ev"
    refine ⟨m, n, A, b, f2 m n A b, fun _ => 0, rfl, S, fun _ => .inl rfl, (f2_flat hz).good, ?_⟩
    rw [fin_none]
    have hpn : (rowD (wid m n) (pr m (fun _ => ((0 : Int) : Rat)) (f2 m n A b))) = rowD (wid m n) fun _ => 0 := seqD_congr fun j _ => by rw [pr_none]
    rw [hpn]
    walk_at "ev"
    refine ite_false' ?_
    refine w_next ?_
    refine wS_env [.dat (.lst (numD m n A)), .dat (.lst (bndD m b)), .dat (.lst (rowD n fun _ => 0)), .dat (.int (m : Nat)), .dat (.int (n : Nat)), .any, .dat (frameD m (wid m n) (f2 m n A b)), .any, .dat (.lst (rowD (wid m n) fun _ => 0)), .any, .any, .any, .any, .any, .any, .any] (by walk_at "wk") ?_
    have hzip : pairs (rowsD m (wid m n) (f2 m n A b).B) (basD m (f2 m n A b).β) = seqD m fun i => .tup [.lst (rowD (wid m n) ((f2 m n A b).B i)), .int ((f2 m n A b).β i : Nat)] := pairs_seq m _ _
    have hF := f2_flat hz
    have hinj : ∀ i l, i < m → l < m → (f2 m n A b).β i = (f2 m n A b).β l → i = l := fun i l hi hl e => by
      have h1 := hF.good.tab.idn i hi i hi
      have h2 := hF.good.tab.idn i hi l hl
      rw [if_pos rfl] at h1
      rw [← e, h1] at h2
      by_cases z : i = l
      · exact z
      · rw [if_neg z] at h2
        exact absurd h2 (by decide +kernel)
    refine w_seq (w_set (w_dc (i_zip ?_)))
    walk_at "ev"
    rw [hzip]
    refine ⟨(List.range m).map fun i => (.inl (((f2 m n A b).β i : Nat) : Int) : Key), rowD m fun i => (f2 m n A b).B i 0, by rw [List.length_map, List.length_range, seqD_len], by unfold rowD; rw [seqD_len, seqD_len], by rw [seqD_len]; omega, fun i j k hi hj => ?_, rfl, fun i d k e hd hk he => ?_, ?_⟩
    · have li := (List.getElem?_eq_some_iff.mp hi).1
      have lj := (List.getElem?_eq_some_iff.mp hj).1
      rw [List.length_map, List.length_range] at li lj
      rw [List.getElem?_map, List.getElem?_range li] at hi
      rw [List.getElem?_map, List.getElem?_range lj] at hj
      have e := (Option.some.inj hi).trans (Option.some.inj hj).symm
      injection e with e
      exact hinj i j li lj (by omega)
    · obtain ⟨hi, rfl⟩ := seqD_at hd
      obtain ⟨_, rfl⟩ := seqD_at he
      rw [List.getElem?_map, List.getElem?_range hi] at hk
      obtain rfl := Option.some.inj
          hk
      refine g_tup ⟨_, rfl, rfl, g_cons (g_name (by decide) (g_cons (g_name (by decide) (g_nil ?_))))⟩
      refine w_yes ⟨rfl, w_var rfl ⟨rfl, ?_⟩⟩
      walk_at "ev"
      rfl
    refine w_seq (w_set (w_cb ca_tuple (w_cons (w_lc (i_rng1 (w_cons (w_var rfl (w_nil ⟨_, rfl, ⟨by omega, by omega⟩, ?_⟩))))))))
    rw [show ((n : Nat) : Int).toNat = n by omega, nums_seq]
    refine lcd_seq (fun j => fr (pnt m n A b j)) (by omega) rfl (fun j hj => ?_) ?_
    · walk_at "ev"
      refine ⟨.inl ((1 : Int) + (0 + (j : Nat))), rfl, w_cd (zeroR T) ⟨?_, rfl⟩⟩
      rw [show (1 : Int) + (0 + (j : Nat)) = ((1 + j : Nat) : Int) by omega]
      exact getD_told (f2 m n A b) (1 + j) m hinj
    refine w_nil ⟨_, _, rfl, rfl, ?_⟩
    refine wS_env [.any, .any, .any, .dat (.int (m : Nat)), .dat (.int (n : Nat)), .any, .any, .any, .dat (.lst (rowD (wid m n) fun _ => 0)), .any, .any, .dat (.tup (rowD n (pnt m n A b))), .any, .any, .any, .any] (by walk_at "wk") ?_
    have hcut : Dl.cutD (rowD (wid m n) fun _ => 0) (some (1 + (n : Int))) (some (1 + (n : Int) + (m : Int))) = rowD m fun _ => 0 := by
      have h := cut_seq (N := wid m n) (a := 1 + n) (k := m) (f := fun _ => fr 0) (by show 1 + n + m ≤ 1 + n + m + m; omega)
      rw [show (((1 + n : Nat)) : Int) = 1 + (n : Int) by omega, show (((1 + n + m : Nat)) : Int) = 1 + (n : Int) + (m : Int) by omega] at h
      exact h
    refine w_ret (w_mk (w_cons (w_c (w_cons (w_var rfl (w_cons (w_call (w_cons (w_cd (zeroR T) (w_cons (w_op od_ix (w_var rfl (w_c ⟨_, _, _, rfl, rfl, seqD_atI (i := 0) hw0, w_nil ⟨0, 0, rfl, sz_zero (by decide), sz_zero (by decide), ?_⟩⟩)))))))))))))
    walk_at "ev"
    rw [hcut]
    refine ⟨trivial, ?_⟩
    rw [show ((0 : Rat) - 0) = 0 by decide +kernel]
    exact pb hz
  · rw [decide_eq_false hz]
    refine ite_true' ?_
    walk_at "ev"
    refine ⟨trivial, ?_⟩
    have hcut : Dl.cutD (rowD (wid m n) (p1 m n A b)) (some (1 + (n : Int))) (some (1 + (n : Int) + (m : Int))) = rowD m (wts m n A b) := by
      have h := cut_seq (N := wid m n) (a := 1 + n) (k := m) (f := fun j => fr (p1 m n A b j)) (by show 1 + n + m ≤ 1 + n + m + m; omega)
      rw [show (((1 + n : Nat)) : Int) = 1 + (n : Int) by omega, show (((1 + n + m : Nat)) : Int) = 1 + (n : Int) + (m : Int) by omega] at h
      exact h
    rw [hcut]
    exact pn hz
end
end Cs
set_option Elab.async false
set_option linter.all false
set_option maxRecDepth 100000
set_option maxHeartbeats 1200000
/-! Tables, their checks, their corners. -/
namespace Cs
open PySem PySem.Spec PyProof.Rows L2 StX Dl Mx
section
variable {K : PySem.W.Frag} {mg : Str → Option Value}
theorem w_fldH {ta : TE} {ρ : Dl.Env} {P : PD} (T : Tx K mg) (h : wE K ta ρ fun d ρ1 => ∃ ns ds e, d = .obj CTable ns ds ∧ fieldOf "heads" ns ds = some e ∧ P e ρ1) : wE K (tFld K ta "heads") ρ P := w_fld T.c_Table T.n_Table_heads h
theorem w_fldT {ta : TE} {ρ : Dl.Env} {P : PD} (T : Tx K mg) (h : wE K ta ρ fun d ρ1 => ∃ ns ds e, d = .obj CTable ns ds ∧ fieldOf "lines" ns ds = some e ∧ P e ρ1) : wE K (tFld K ta "lines") ρ P := w_fld T.c_Table T.n_Table_lines h
end
local macro_rules | `(tactic| walk_at "ev1") => `(tactic| first
  | with_reducible refine w_seq ?_
  | with_reducible refine ite_true' ?_
  | with_reducible refine ite_false' ?_
  | with_reducible refine ite_nt ?_
  | with_reducible refine ite_nf ?_
  | with_reducible refine w_next ?_
  | with_reducible refine w_ret ?_
  | with_reducible refine w_set ?_
  | with_reducible refine w_par ?_
  | with_reducible refine w_par3 ?_
  | with_reducible refine w_drop ?_
  | with_reducible refine w_ifS ?_
  | refine w_var rfl ?_
  | with_reducible refine w_cd (zeroR (by assumption)) ?_
  | with_reducible refine w_cd (oneR (by assumption)) ?_
  | with_reducible refine w_c ?_
  | with_reducible refine w_yes ?_
  | with_reducible refine w_cons ?_
  | with_reducible refine w_star ?_
  | with_reducible refine w_nil ?_
  | with_reducible refine w_tup ?_
  | with_reducible refine w_lst ?_
  | with_reducible refine w_neg ?_
  | with_reducible refine w_if ?_
  | with_reducible refine w_test ?_
  | with_reducible refine w_B ?_
  | with_reducible refine w_not ?_
  | with_reducible refine w_notV ?_
  | with_reducible refine w_and ?_
  | with_reducible refine w_or ?_
  | with_reducible refine w_andV ?_
  | with_reducible refine w_orV ?_
  | with_reducible refine w_op od_I0 ?_
  | with_reducible refine w_op od_I ?_
  | with_reducible refine w_op od_ix ?_
  | with_reducible refine w_op od_ixL ?_
  | with_reducible refine w_op od_ixT ?_
  | with_reducible refine w_op od_eq ?_
  | with_reducible refine w_op od_ne ?_
  | with_reducible refine w_op od_isN ?_
  | with_reducible refine w_op od_notN ?_
  | with_reducible refine w_op od_cat ?_
  | with_reducible refine w_op od_catA ?_
  | with_reducible refine w_op od_rep ?_
  | with_reducible refine w_op od_repN ?_
  | with_reducible refine w_op od_eqD ?_
  | with_reducible refine w_op od_neD ?_
  | with_reducible refine w_op od_in ?_
  | with_reducible refine w_op od_notInD ?_
  | with_reducible refine w_slL ?_
  | with_reducible refine w_slT ?_
  | with_reducible refine w_noPart ?_
  | with_reducible refine w_some ?_
  | with_reducible refine w_call ?_
  | with_reducible refine w_cb ca_len ?_
  | with_reducible refine w_cb ca_len_str ?_
  | with_reducible refine w_cb ca_list ?_
  | with_reducible refine w_cb ca_tuple ?_
  | with_reducible refine w_cb ca_abs ?_
  | with_reducible refine w_cb ca_int ?_
  | with_reducible refine w_cb ca_all ?_
  | with_reducible refine w_cb ca_repr ?_
  | with_reducible refine w_lc ?_
  | with_reducible refine w_lc2 ?_
  | with_reducible refine w_for ?_
  | with_reducible refine w_meth ?_
  | with_reducible refine w_prop ?_
  | with_reducible refine w_mk ?_
  | with_reducible refine w_dc ?_
  | with_reducible refine w_dget2 ?_
  | with_reducible refine w_lstRg ?_
  | with_reducible refine w_cb ca_isi ?_
  | with_reducible refine w_cb ca_isC ?_
  | with_reducible refine w_cb ca_divmod ?_
  | with_reducible refine w_op od_inSign ?_
  | with_reducible refine i_enumA ?_
  | with_reducible refine i_zipTL ?_
  | with_reducible refine i_enumZip ?_
  | with_reducible refine i_zipTT ?_
  | with_reducible refine g_tup ?_
  | refine ⟨_, rfl, rfl, ?_⟩
  | with_reducible refine g_cons ?_
  | with_reducible refine g_name (by decide) ?_
  | with_reducible refine g_nil ?_
  | with_reducible refine w_asg (js := List.range 40) ?_
  | refine ⟨okEq_fr _, okEq_fr _, ?_⟩
  | with_reducible refine i_list ?_
  | with_reducible refine i_tup ?_
  | with_reducible refine i_rng1 ?_
  | with_reducible refine i_rng2 ?_
  | with_reducible refine i_enum ?_
  | with_reducible refine i_zip ?_
  | with_reducible refine i_str ?_
  | refine ⟨Nat.le_of_ble_eq_true rfl, ?_⟩
  | refine ⟨_, rfl, ?_⟩
  | refine ⟨_, _, rfl, ?_⟩
  | refine ⟨_, _, _, rfl, ?_⟩
  | refine ⟨_, _, _, _, rfl, rfl, rfl, ?_⟩
  | refine ⟨_, _, rfl, by decide, ?_⟩
  | refine ⟨_, _, rfl, rfl, ?_⟩
  | refine ⟨_, _, _, rfl, rfl, rfl, ?_⟩
  | refine ⟨_, _, _, rfl, rfl, ?_⟩
  | refine ⟨_, _, _, rfl, rfl, seqD_atI (by first | assumption | omega), ?_⟩
  | refine ⟨_, _, _, _, rfl, ?_⟩
  | refine ⟨_, _, _, _, _, rfl, ?_⟩
  | refine ⟨rfl, ?_⟩
  | refine ⟨by decide +kernel, ?_⟩)
local macro_rules | `(tactic| walk_at "ev") => `(tactic| repeat walk_at "ev1")
local macro_rules | `(tactic| walk_at "wk") => `(tactic| repeat (first | exact True.intro | refine ⟨.inr rfl, ?_⟩ | refine ⟨.inl rfl, ?_⟩))
local macro_rules | `(tactic| walk_at "ev1") => `(tactic| first
  | with_reducible refine w_chain od_I0 od_I0 ?_
  | with_reducible refine w_fldH (by assumption) ?_
  | with_reducible refine w_fldT (by assumption) ?_)
abbrev Bd := Nat → Nat → Int × Int
abbrev Tg := Nat → Int × Int
def headsD (wide : Nat) (hd : Nat → Str) : List D := seqD wide fun k => .str (hd k)
def strD (wide : Nat) (b : Tg) : List D := seqD wide fun k => stD (b k)
def rowsT (tall wide : Nat) (nm : Nat → Str) (B : Bd) : List D := seqD tall fun i => .tup [.str (nm i), .tup (strD wide (B i))]
def tabD (tall wide : Nat) (hd nm : Nat → Str) (B : Bd) : D := .obj CTable ["heads", "lines"] [.tup (headsD wide hd), .tup (rowsT tall wide nm B)]
def sgS (wide : Nat) (s : Nat → Int) : D := .tup (seqD wide fun k => .int (s k))
/-- bounds of a stretch -/
def StOk (c : Int) (x : Int × Int) : Prop := -c ≤ x.1 ∧ x.1 ≤ x.2 ∧ x.2 ≤ c
def namesOk (n : Nat) (nm : Nat → Str) : Prop := (∀ i, i < n → nameOk (nm i)) ∧ ∀ i j, i < j → j < n → nm j ≠ nm i
def S_check_columns : PS1 := fun ds P => ∃ (w : Nat) (hd : Nat → Str), ds = [.tup (headsD w hd)] ∧ 1 ≤ w ∧ w ≤ 4 ∧ namesOk w hd ∧ P .non
def S_is_row : PS1 := fun ds P => ∃ (w : Nat) (x : Str) (b : Tg) (ns : List Str), ds = [.tup [.str x, .tup (strD w b)], .int (w : Nat), .lst (ns.map D.str)] ∧ w ≤ 4 ∧ nameOk x ∧ x ∉ ns ∧ (∀ k, k < w → StOk 10000 (b k)) ∧ P (.bl true)
def S_check_rows : PS1 := fun ds P => ∃ (t w : Nat) (nm : Nat → Str) (B : Bd), ds = [.int (w : Nat), .tup (rowsT t w nm B)] ∧ 1 ≤ t ∧ t ≤ 8 ∧ w ≤ 4 ∧ namesOk t nm ∧ (∀ i k, i < t → k < w → StOk 10000 (B i k)) ∧ P .non
structure TabOk (t w : Nat) (hd nm : Nat → Str) (B : Bd) : Prop where
  t1 : 1 ≤ t
  t8 : t ≤ 6
  w1 : 1 ≤ w
  w4 : w ≤ 3
  hd : namesOk w hd
  nm : namesOk t nm
  B : ∀ i k, i < t → k < w → StOk 14 (B i k)
def S_Table : List D → Prop := fun ds => ∃ (t w : Nat) (hd nm : Nat → Str) (B : Bd), ds = [.tup (headsD w hd), .tup (rowsT t w nm B)] ∧ TabOk t w hd nm B
def S_columns : PS1 := fun ds P => ∃ (t w : Nat) (hd nm : Nat → Str) (B : Bd), ds = [tabD t w hd nm B] ∧ P (.tup (headsD w hd))
def S_rows : PS1 := fun ds P => ∃ (t w : Nat) (hd nm : Nat → Str) (B : Bd), ds = [tabD t w hd nm B] ∧ P (.tup (rowsT t w nm B))
def S_check_table : PS1 := fun ds P => ∃ (t w : Nat) (hd nm : Nat → Str) (B : Bd), ds = [tabD t w hd nm B] ∧ P .non
def S_check_signs : PS1 := fun ds P => ∃ (t w : Nat) (hd nm : Nat → Str) (B : Bd) (r : List Int), ds = [tabD t w hd nm B, sgD r] ∧ w ≤ 4 ∧ r ∈ marks w ∧ P .non
/-- an end of a stretch: HIGH for 1, LOW for -1 -/
def endOf (x : Int × Int) (s : Int) : Int := if s > 0 then x.2 else x.1
def sv (r : List Int) (k : Nat) : Int := r.getD k 0
def S_end_row : PS1 := fun ds P => ∃ (w : Nat) (b : Tg) (s : Nat → Int), ds = [.tup (strD w b), sgS w s] ∧ w ≤ 4 ∧ P (.lst (seqD w fun k => .int (endOf (b k) (s k))))
def cornD (t w : Nat) (B : Bd) (s : Nat → Int) : D := .tup (seqD t fun i => .tup (seqD w fun k => .tup [.int (endOf (B i k) (s k)), .int 1]))
def S_corner_of : PS1 := fun ds P => ∃ (t w : Nat) (hd nm : Nat → Str) (B : Bd) (s : Nat → Int), ds = [tabD t w hd nm B, sgS w s] ∧ t ≤ 8 ∧ w ≤ 4 ∧ P (cornD t w B s)
def S_corner : PS1 := fun ds P => ∃ (t w : Nat) (hd nm : Nat → Str) (B : Bd) (r : List Int), ds = [tabD t w hd nm B, sgD r] ∧ t ≤ 8 ∧ w ≤ 4 ∧ r ∈ marks w ∧ P (cornD t w B (sv r))
def S_check_target : PS1 := fun ds P => ∃ (t w : Nat) (hd nm : Nat → Str) (B : Bd) (G : Tg), ds = [tabD t w hd nm B, .tup (strD w G)] ∧ w ≤ 4 ∧ (∀ k, k < w → StOk 10000 (G k)) ∧ P .non
def S_check_question : PS1 := S_check_target
theorem name_lay {x : Str} (h : nameOk x) : PyData.canLay0 (.str x) = true := by
  simp only [PyData.canLay0]
  refine Array.all_eq_true_iff_forall_mem.mpr fun c hc => ?_
  have h1 := h.2.2 c (Array.mem_toList_iff.mpr hc)
  have h2 : ∀ c ∈ letters.cps.toList, c < 0x110000 := by decide +kernel
  exact decide_eq_true (h2 c h1)
theorem flat_strs (ns : List Str) : (ns.map D.str).all flatD = true := by
  rw [List.all_eq_true]
  intro d hd
  obtain ⟨x, _, rfl⟩ := List.mem_map.mp hd
  rfl
theorem in_strs {x : Str} {ns : List Str} (h : x ∉ ns) : (if false = true then !inV (.str x) ((ns.map D.str).map unv) else inV (.str x) ((ns.map D.str).map unv)) = false := by
  rw [if_neg
      Bool.false_ne_true]
  unfold inV
  rw [List.any_eq_false]
  intro y hy
  rw [List.map_map] at hy
  obtain ⟨z, hz, rfl⟩ := List.mem_map.mp hy
  have ne : z ≠ x := fun e => h (e ▸ hz)
  show ¬ (z == x) = true
  exact fun e => ne (eq_of_beq e)
theorem cut_pre {N k : Nat} {f : Nat → D} (h : k ≤ N) : Dl.cutD (seqD N f) none (some (k : Int)) = seqD k f := by
  unfold Dl.cutD
  rw [HT.sIx_nat, HT.sIx_none, seqD_len, Nat.min_eq_left h, List.drop_zero, Nat.sub_zero]
  refine seqD_ext (by rw [List.length_take, seqD_len]; omega) fun i hi => ?_
  rw [List.getElem?_take, if_pos hi, seqD_get (by omega)]
theorem seq_strs (k : Nat) (hd : Nat → Str) : (seqD k fun i => .str (hd i)) = ((List.range k).map hd).map D.str := by
  unfold seqD
  rw [List.map_map]
  rfl
theorem not_before {n : Nat} {hd : Nat → Str} (h : namesOk n hd) {i : Nat} (hi : i < n) : hd i ∉ (List.range i).map hd := fun z => by
  obtain ⟨j, hj, e⟩ := List.mem_map.mp z
  exact h.2 j i (List.mem_range.mp hj) hi e.symm
theorem sg_seq {w : Nat} {r : List Int} (h : r.length = w) : sgD r = sgS w (sv r) := by
  unfold sgD sgS
  congr 1
  refine seqD_ext (by rw [List.length_map, h]) fun k hk => ?_
  rw [List.getElem?_map, List.getElem?_eq_getElem (by omega)]
  show some (D.int _) = some (D.int (r.getD k 0))
  rw [List.getD_eq_getElem?_getD, List.getElem?_eq_getElem (by omega)]
  rfl
theorem sv_two {w : Nat} {r : List Int} (h : r ∈ marks w) {k : Nat} (hk : k < w) : sv r k = 1 ∨ sv r k = -1 := by
  obtain ⟨h1, h2⟩ := marks_mem h
  unfold sv
  rw [List.getD_eq_getElem?_getD, List.getElem?_eq_getElem (by omega)]
  exact h2 _ (List.getElem_mem _)
section
variable {Pr : Program} {w : World} {K : PySem.W.Frag} {mg : Str → Option Value} {base : Heap}
theorem sc_check_columns : FnScope ["value", "index", "name"] ["value"] (defScope s_check_columns) := ⟨rfl, rfl, rfl, by decide +kernel, rfl, by decide +kernel, by decide +kernel⟩
theorem sc_is_row : FnScope ["value", "many", "names", "each"] ["value", "many", "names"] (defScope s_is_row) := ⟨rfl, rfl, rfl, by decide +kernel, rfl, by decide +kernel, by decide +kernel⟩
theorem sc_check_rows : FnScope ["many", "value", "index", "row", "each"] ["many", "value"] (defScope s_check_rows) := ⟨rfl, rfl, rfl, by decide +kernel, rfl, by decide +kernel, by decide +kernel⟩
theorem sc_Table__init : FnScope ["self", "columns", "rows"] ["self", "columns", "rows"] (defScope s_Table_init) := ⟨rfl, rfl, rfl, by decide +kernel, rfl, by decide +kernel, by decide +kernel⟩
theorem sc_Table_columns : FnScope ["self"] ["self"] (defScope s_Table_columns) := ⟨rfl, rfl, rfl, by decide +kernel, rfl, by decide +kernel, by decide +kernel⟩
theorem sc_Table_rows : FnScope ["self"] ["self"] (defScope s_Table_rows) := ⟨rfl, rfl, rfl, by decide +kernel, rfl, by decide +kernel, by decide +kernel⟩
theorem sc_check_table : FnScope ["value"] ["value"] (defScope s_check_table) := ⟨rfl, rfl, rfl, by decide +kernel, rfl, by decide +kernel, by decide +kernel⟩
theorem sc_check_signs : FnScope ["table", "value"] ["table", "value"] (defScope s_check_signs) := ⟨rfl, rfl, rfl, by decide +kernel, rfl, by decide +kernel, by decide +kernel⟩
theorem sc_end_row : FnScope ["stretches", "signs", "stretch", "sign"] ["stretches", "signs"] (defScope s_end_row) := ⟨rfl, rfl, rfl, by decide +kernel, rfl, by decide +kernel, by decide +kernel⟩
theorem sc_corner_of : FnScope ["table", "signs", "name", "stretches", "end"] ["table", "signs"] (defScope s_corner_of) := ⟨rfl, rfl, rfl, by decide +kernel, rfl, by decide +kernel, by decide +kernel⟩
theorem sc_corner : FnScope ["table", "signs"] ["table", "signs"] (defScope s_corner) := ⟨rfl, rfl, rfl, by decide +kernel, rfl, by decide +kernel, by decide +kernel⟩
theorem sc_check_target : FnScope ["table", "value", "each"] ["table", "value"] (defScope s_check_target) := ⟨rfl, rfl, rfl, by decide +kernel, rfl, by decide +kernel, by decide +kernel⟩
theorem sc_check_question : FnScope ["table", "target"] ["table", "target"] (defScope s_check_question) := ⟨rfl, rfl, rfl, by decide +kernel, rfl, by decide +kernel, by decide +kernel⟩
theorem O_Table_columns (T : Tx K mg) : OkP Pr w K mg base 1 CTable "columns" ["self"] (spD K S_columns) := by
  refine okP_mk T.p_Table_columns sc_Table_columns (fun ds P ⟨a, b, c, d, f, e, _⟩ => by rw [e]; rfl) (fun f cdv A outer s H E hr => ⟨_, 
    (pss_one (ps_ret (kpe_fld K (pv 0)))),
    fun ds P ⟨t, w, hd, nm, B, e, p⟩ => ?_⟩) fun _ _ _ _ _ _ us hl => match us, hl with | [_], _ => rfl
  subst e
  walk_at "ev"
  exact p
theorem O_Table_rows (T : Tx K mg) : OkP Pr w K mg base 1 CTable "rows" ["self"] (spD K S_rows) := by
  refine okP_mk T.p_Table_rows sc_Table_rows (fun ds P ⟨a, b, c, d, f, e, _⟩ => by rw [e]; rfl) (fun f cdv A outer s H E hr => ⟨_, 
    (pss_one (ps_ret (kpe_fld K (pv 0)))),
    fun ds P ⟨t, w, hd, nm, B, e, p⟩ => ?_⟩) fun _ _ _ _ _ _ us hl => match us, hl with | [_], _ => rfl
  subst e
  walk_at "ev"
  exact p
theorem O_check_table (T : Tx K mg) : OkD Pr w K mg base 1 "check_table" ["value"] S_check_table := by
  refine ok_mk T.f_check_table sc_check_table (fun ds P ⟨a, b, c, d, f, e, _⟩ => by rw [e]; rfl) (fun f cdv A outer s H E hr => ⟨_, 
    (pss_one (ps_if (pt_not (pt_val (pe_callB (C8.call_isC T.ins_Table) rfl T.z_isinstance (by decide +kernel) (pa_cons (pv 0) (pa_cons (pe_globR T.g_Table) pa_nil))))) (pss_one ps_never) pss_nil)),
    fun ds P ⟨t, w, hd, nm, B, e, p⟩ => ?_⟩) fun _ _ _ _ _ _ us hl => match us, hl with | [_], _ => rfl
  subst e
  walk_at "ev"
  exact p
theorem O_check_signs (T : Tx K mg) (O_are_signs : OkD Pr w K mg base 2 "are_signs" ["value", "many"] S_are_signs) : OkD Pr w K mg base 3 "check_signs" ["table", "value"] S_check_signs := by
  refine ok_mk T.f_check_signs sc_check_signs (fun ds P ⟨a, b, c, d, f, g, e, _⟩ => by rw [e]; rfl) (fun f cdv A outer s H E hr => ⟨_, 
    (pss_one (ps_if (pt_not (pt_val (pe_ok O_are_signs (hr.mono (by decide)) (pa_cons (pv 1) (pa_cons (pe_callB (kcall_len K) rfl T.z_len PySem.boot_len (pa_cons (kpe_fld K (pv 0)) pa_nil)) pa_nil))))) (pss_one ps_never) pss_nil)),
    fun ds P ⟨t, w, hd, nm, B, r, e, hw, hr, p⟩ => ?_⟩) fun _ _ _ _ _ _ us hl => match us, hl with | [_, _], _ => rfl
  subst e
  walk_at "ev"
  have hl : (headsD w hd).length = w := by unfold headsD; rw [seqD_len]
  rw [hl]
  walk_at "ev"
  refine ⟨hr, by omega, ?_⟩
  walk_at "ev"
  exact p
theorem O_end_row (T : Tx K mg) : OkD Pr w K mg base 1 "end_row" ["stretches", "signs"] S_end_row := by
  refine ok_mk T.f_end_row sc_end_row (fun ds P ⟨a, b, c, e, _⟩ => by rw [e]; rfl) (fun f cdv A outer s H E hr => ⟨_, 
    (pss_one (ps_ret (pe_lc (own := [("stretch", 2), ("sign", 3)]) rfl sc_end_row.nd (kpi_zipA K T.z_zip (pa_cons (pv 0) (pa_cons (pv 1) pa_nil))) (blkOk_by (by kernel_rfl)) (by intro _ _ _ _ _; exact (kpg_tup K (n := 2) (pgs_cons (pg_nameA (i := 2) sc_end_row.nd) (pgs_cons (pg_nameA (i := 3) sc_end_row.nd) pgs_nil)))) (by intro _ _ _ _ _; exact pts_nil) (by intro _ _ _ _ _; exact (pe_ifExp (pt_cmpR op_gt (pv 3) pe_int (nomark _)) (pe_ix (kix_seq K) (pv 2) pe_int (fun _ _ => rfl)) (pe_ix (kix_seq K) (pv 2) pe_int (fun _ _ => rfl))))))),
    fun ds P ⟨w, b, s, e, hw, p⟩ => ?_⟩) fun _ _ _ _ _ _ us hl => match us, hl with | [_, _], _ => rfl
  subst e
  walk_at "ev"
  unfold strD
  rw [pairs_seq]
  refine lcd_seq (fun k => .int (endOf (b k) (s k))) (by omega) rfl (fun k hk => ?_) p
  unfold stD
  walk_at "ev"
  refine ite_dec (fun h => ?_) (fun h => ?_)
  · walk_at "ev"
    refine ⟨?_, rfl⟩
    unfold endOf
    rw [if_pos h]
  · walk_at "ev"
    refine ⟨?_, rfl⟩
    unfold endOf
    rw [if_neg h]
theorem O_corner_of (T : Tx K mg) (O_end_row : OkD Pr w K mg base 1 "end_row" ["stretches", "signs"] S_end_row) : OkD Pr w K mg base 2 "corner_of" ["table", "signs"] S_corner_of := by
  refine ok_mk T.f_corner_of sc_corner_of (fun ds P ⟨a, b, c, d, f, g, e, _⟩ => by rw [e]; rfl) (fun f cdv A outer s H E hr => ⟨_, 
    (pss_one (ps_ret (pe_callTy (kcall_tuple K) rfl T.z_tuple (by decide +kernel) (pa_cons (pe_lc (own := [("name", 2), ("stretches", 3)]) rfl sc_corner_of.nd (kpi_tup K (kpe_fld K (pv 0))) (blkOk_by (by kernel_rfl)) (by intro _ _ _ _ _; exact (kpg_tup K (n := 2) (pgs_cons (pg_nameA (i := 2) sc_corner_of.nd) (pgs_cons (pg_nameA (i := 3) sc_corner_of.nd) pgs_nil)))) (by intro _ _ _ _ _; exact pts_nil) (by intro _ _ _ _ _; exact (pe_callTy (kcall_tuple K) rfl T.z_tuple (by decide +kernel) (pa_cons (pe_lc (own := [("end", 4)]) rfl sc_corner_of.nd (kpi_list K (pe_ok O_end_row (hr.mono (by decide)) (pa_cons (pv 3) (pa_cons (pv 1) pa_nil)))) (blkOk_by (by kernel_rfl)) (by intro _ _ _ _ _; exact pg_nameA (i := 4) sc_corner_of.nd) (by intro _ _ _ _ _; exact pts_nil) (by intro _ _ _ _ _; exact (pe_tup (pa_cons (pv 4) (pa_cons pe_int pa_nil))))) pa_nil)))) pa_nil)))),
    fun ds P ⟨t, w, hd, nm, B, s, e, ht, hw, p⟩ => ?_⟩) fun _ _ _ _ _ _ us hl => match us, hl with | [_, _], _ => rfl
  subst e
  walk_at "ev"
  unfold rowsT
  refine lcd_seq (fun i => .tup (seqD w fun k => .tup [.int (endOf (B i k) (s k)), .int 1])) (by omega) rfl (fun i hi => ?_) ?_
  · walk_at "ev"
    refine ⟨hw, ?_⟩
    walk_at "ev"
    refine lcd_seq (fun k => .tup [.int (endOf (B i k) (s k)), .int 1]) (by omega) rfl (fun k hk => ?_) ?_
    · walk_at "ev"
      rfl
    walk_at "ev"
    rfl
  walk_at "ev"
  exact p
theorem O_corner (T : Tx K mg) (O_check_table : OkD Pr w K mg base 1 "check_table" ["value"] S_check_table) (O_check_signs : OkD Pr w K mg base 3 "check_signs" ["table", "value"] S_check_signs) (O_corner_of : OkD Pr w K mg base 2 "corner_of" ["table", "signs"] S_corner_of) : OkD Pr w K mg base 4 "corner" ["table", "signs"] S_corner := by
  refine ok_mk T.f_corner sc_corner (fun ds P ⟨a, b, c, d, f, g, e, _⟩ => by rw [e]; rfl) (fun f cdv A outer s H E hr => ⟨_, 
    (pss_cons (ps_expr (pe_ok O_check_table (hr.mono (by decide)) (pa_cons (pv 0) pa_nil)))
      (pss_cons (ps_expr (pe_ok O_check_signs (hr.mono (by decide)) (pa_cons (pv 0) (pa_cons (pv 1) pa_nil))))
      (pss_one (ps_ret (pe_ok O_corner_of (hr.mono (by decide)) (pa_cons (pv 0) (pa_cons (pv 1) pa_nil))))))),
    fun ds P ⟨t, w, hd, nm, B, r, e, ht, hw, hr, p⟩ => ?_⟩) fun _ _ _ _ _ _ us hl => match us, hl with | [_, _], _ => rfl
  subst e
  walk_at "ev"
  refine ⟨t, w, hd, nm, B, r, rfl, hw, hr, ?_⟩
  walk_at "ev"
  exact ⟨t, w, hd, nm, B, sv r, by rw [sg_seq (marks_mem hr).1], ht, hw, p⟩
theorem O_check_columns (T : Tx K mg) (O_is_name : OkD Pr w K mg base 1 "is_name" ["value"] S_is_name) : OkD Pr w K mg base 2 "check_columns" ["value"] S_check_columns := by
  refine ok_mk T.f_check_columns sc_check_columns (fun ds P ⟨a, b, e, _⟩ => by rw [e]; rfl) (fun f cdv A outer s H E hr => ⟨_, 
    (pss_cons (ps_if (PW.pt (pw_or (pt_not (pt_val (pe_callB (kcall_isi K) rfl T.z_isinstance (by decide +kernel) (pa_cons (pv 0) (pa_cons (pe_bltn (v := .ty "tuple") rfl T.z_tuple (by decide +kernel) rfl) pa_nil))))) (pw_or1 (pt_cmpR (kop_eqD K (by exact hr.units)) (pv 0) (pe_tup pa_nil) (nomark _))))) (pss_one ps_never) pss_nil)
      (pss_one (ps_for PassesOwn.never rfl (kpi_enumT K T.z_enumerate (pa_cons (pv 0) pa_nil)) (kpg_tup K (n := 2) (pgs_cons (pg_nameA (i := 1) sc_check_columns.nd) (pgs_cons (pg_nameA (i := 2) sc_check_columns.nd) pgs_nil))) (pss_one (ps_if (PW.pt (pw_or (pt_cmpR op_eq (pv 1) (pe_globI T.k_MOST_COLUMNS) (nomark _)) (pw_or (pt_not (pt_val (pe_ok O_is_name (hr.mono (by decide)) (pa_cons (pv 2) pa_nil)))) (pw_or1 (pt_cmpR (kop_in_seq K) (pv 2) (pe_slice (ksl_tupA K) (pv 0) po_none (po_some (pv 1))) (by with_unfolding_all rfl)))))) (pss_one ps_never) pss_nil))))),
    fun ds P ⟨w, hd, e, h1, h4, hn, p⟩ => ?_⟩) fun _ _ _ _ _ _ us hl => match us, hl with | [_], _ => rfl
  subst e
  have ok1 : okEq (.tup (headsD w hd)) := (okN_seqT fun k hk => okN_str (name_lay (hn.1 k hk))).eq (by decide)
  walk_at "ev"
  refine ⟨ok1, okE_nilT, ?_⟩
  rw [eqv_nilT]
  have hne : (headsD w hd).isEmpty = false := by
    cases h : headsD w hd with
    | nil =>
      have := congrArg
          List.length h
      unfold headsD at this
      rw [seqD_len] at this
      simp at this
      omega
    | cons _ _ => rfl
  rw [hne]
  walk_at "ev"
  unfold headsD
  rw [enum_seq]
  refine for_seq [1, 2] (fun i ρ => Stop (∃ d1 d2, ρ = [.dat (.tup (headsD w hd)), d1, d2])) (stop ⟨.any, .any, rfl⟩) (fun i ρ hi hp => ?_) (fun ρ hp => ?_)
  · obtain ⟨d1, d2, e⟩ := hp.go
    subst e
    walk_at "ev"
    refine ite_dec (fun h => ?_) (fun _ => ?_)
    · injection h with h
      omega
    walk_at "ev"
    refine ⟨hn.1 i hi, ?_⟩
    walk_at "ev"
    have hc : Dl.cutD (headsD w hd) none (some (i : Int)) = ((List.range i).map hd).map D.str := by
      unfold headsD
      rw [cut_pre (by omega), seq_strs]
    rw [hc]
    refine ⟨flat_strs _, ?_⟩
    rw [in_strs (not_before hn hi)]
    walk_at "ev"
    exact stop ⟨_, _, rfl⟩
  · obtain ⟨d1, d2, e⟩ := hp.go
    subst e
    walk_at "ev"
    exact p
theorem O_check_target (T : Tx K mg) (O_is_tuple_of : OkD Pr w K mg base 1 "is_tuple_of" ["value", "many"] S_is_tuple_of) (O_is_stretch : OkD Pr w K mg base 3 "is_stretch" ["value", "least", "greatest"] S_is_stretch) (O_Table_columns : OkP Pr w K mg base 1 CTable "columns" ["self"] (spD K S_columns)) : OkD Pr w K mg base 4 "check_target" ["table", "value"] S_check_target := by
  refine ok_mk T.f_check_target sc_check_target (fun ds P ⟨a, b, c, d, f, g, e, _⟩ => by rw [e]; rfl) (fun f cdv A outer s H E hr => ⟨_, 
    (pss_cons (ps_if (pt_not (pt_val (pe_ok O_is_tuple_of (hr.mono (by decide)) (pa_cons (pv 1) (pa_cons (pe_callB (kcall_len K) rfl T.z_len PySem.boot_len (pa_cons (pe_okP T.c_Table O_Table_columns (hr.mono (by decide)) (pv 0)) pa_nil)) pa_nil))))) (pss_one ps_never) pss_nil)
      (pss_one (ps_if (pt_not (pt_val (pe_callB (kcr_all K) rfl T.z_all (by decide +kernel) (pa_cons (pe_lc (own := [("each", 2)]) rfl sc_check_target.nd (kpi_tup K (pv 1)) (blkOk_by (by kernel_rfl)) (by intro _ _ _ _ _; exact pg_nameA (i := 2) sc_check_target.nd) (by intro _ _ _ _ _; exact pts_nil) (by intro _ _ _ _ _; exact (pe_ok O_is_stretch (hr.mono (by decide)) (pa_cons (pv 2) (pa_cons (pe_op op_sub pe_int (pe_globI T.k_MOST_END)) (pa_cons (pe_globI T.k_MOST_END) pa_nil)))))) pa_nil)))) (pss_one ps_never) pss_nil))),
    fun ds P ⟨t, w, hd, nm, B, G, e, hw, hG, p⟩ => ?_⟩) fun _ _ _ _ _ _ us hl => match us, hl with | [_, _], _ => rfl
  subst e
  walk_at "ev"
  refine ⟨by unfold strD headsD; rw [seqD_len, seqD_len], ?_⟩
  walk_at "ev"
  refine lcd_trues (by unfold strD; rw [seqD_len]; omega) rfl (fun k d hd => ?_) ?_
  · obtain ⟨hk, rfl⟩ := seqD_at hd
    have h := hG k hk
    walk_at "ev"
    exact ⟨by have := h.1; omega, h.2.1, h.2.2, rfl, rfl⟩
  walk_at "ev"
  rw [all_trues]
  walk_at "ev"
  exact p
theorem O_check_question (T : Tx K mg) (O_check_table : OkD Pr w K mg base 1 "check_table" ["value"] S_check_table) (O_check_target : OkD Pr w K mg base 4 "check_target" ["table", "value"] S_check_target) : OkD Pr w K mg base 5 "check_question" ["table", "target"] S_check_question := by
  refine ok_mk T.f_check_question sc_check_question (fun ds P ⟨a, b, c, d, f, g, e, _⟩ => by rw [e]; rfl) (fun f cdv A outer s H E hr => ⟨_, 
    (pss_cons (ps_expr (pe_ok O_check_table (hr.mono (by decide)) (pa_cons (pv 0) pa_nil)))
      (pss_one (ps_expr (pe_ok O_check_target (hr.mono (by decide)) (pa_cons (pv 0) (pa_cons (pv 1) pa_nil)))))),
    fun ds P ⟨t, w, hd, nm, B, G, e, hw, hG, p⟩ => ?_⟩) fun _ _ _ _ _ _ us hl => match us, hl with | [_, _], _ => rfl
  subst e
  walk_at "ev"
  refine ⟨t, w, hd, nm, B, G, rfl, hw, hG, ?_⟩
  walk_at "ev"
  exact p
theorem O_is_row (T : Tx K mg) (O_is_tuple_of : OkD Pr w K mg base 1 "is_tuple_of" ["value", "many"] S_is_tuple_of) (O_is_name : OkD Pr w K mg base 1 "is_name" ["value"] S_is_name) (O_is_end_stretch : OkD Pr w K mg base 4 "is_end_stretch" ["value"] S_is_end_stretch) : OkD Pr w K mg base 5 "is_row" ["value", "many", "names"] S_is_row := by
  refine ok_mk T.f_is_row sc_is_row (fun ds P ⟨a, b, c, d, e, _⟩ => by rw [e]; rfl) (fun f cdv A outer s H E hr => ⟨_, 
    (pss_cons (ps_if (PW.pt (pw_or (pt_not (pt_val (pe_ok O_is_tuple_of (hr.mono (by decide)) (pa_cons (pv 0) (pa_cons pe_int pa_nil))))) (pw_or (pt_not (pt_val (pe_ok O_is_name (hr.mono (by decide)) (pa_cons (pe_ix (kix_seq K) (pv 0) pe_int (fun _ _ => rfl)) pa_nil)))) (pw_or1 (pt_cmpR (kop_in_seq K) (pe_ix (kix_seq K) (pv 0) pe_int (fun _ _ => rfl)) (pv 2) (by with_unfolding_all rfl)))))) (pss_one (ps_ret pe_bl)) pss_nil)
      (pss_one (ps_ret (pe_and (pe_ok O_is_tuple_of (hr.mono (by decide)) (pa_cons (pe_ix (kix_seq K) (pv 0) pe_int (fun _ _ => rfl)) (pa_cons (pv 1) pa_nil))) (pe_one (pe_callB (kcr_all K) rfl T.z_all (by decide +kernel) (pa_cons (pe_lc (own := [("each", 3)]) rfl sc_is_row.nd (kpi_tup K (pe_ix (kix_seq K) (pv 0) pe_int (fun _ _ => rfl))) (blkOk_by (by kernel_rfl)) (by intro _ _ _ _ _; exact pg_nameA (i := 3) sc_is_row.nd) (by intro _ _ _ _ _; exact pts_nil) (by intro _ _ _ _ _; exact (pe_ok O_is_end_stretch (hr.mono (by decide)) (pa_cons (pv 3) pa_nil)))) pa_nil))))))),
    fun ds P ⟨w, x, b, ns, e, hw, hx, hn, hb, p⟩ => ?_⟩) fun _ _ _ _ _ _ us hl => match us, hl with | [_, _, _], _ => rfl
  subst e
  walk_at "ev"
  refine ⟨hx, ?_⟩
  walk_at "ev"
  refine ⟨flat_strs ns, ?_⟩
  rw [in_strs hn]
  walk_at "ev"
  refine ⟨by unfold strD; rw [seqD_len], ?_⟩
  walk_at "ev"
  refine lcd_trues (by unfold strD; rw [seqD_len]; omega) rfl (fun k d hd => ?_) ?_
  · obtain ⟨hk, rfl⟩ := seqD_at hd
    have h := hb k hk
    walk_at "ev"
    exact ⟨h.1, h.2.1, h.2.2, rfl, rfl⟩
  walk_at "ev"
  rw [all_trues]
  exact p
theorem O_check_rows (T : Tx K mg) (O_is_row : OkD Pr w K mg base 5 "is_row" ["value", "many", "names"] S_is_row) : OkD Pr w K mg base 6 "check_rows" ["many", "value"] S_check_rows := by
  refine ok_mk T.f_check_rows sc_check_rows (fun ds P ⟨a, b, c, d, e, _⟩ => by rw [e]; rfl) (fun f cdv A outer s H E hr => ⟨_, 
    (pss_cons (ps_if (PW.pt (pw_or (pt_not (pt_val (pe_callB (kcall_isi K) rfl T.z_isinstance (by decide +kernel) (pa_cons (pv 1) (pa_cons (pe_bltn (v := .ty "tuple") rfl T.z_tuple (by decide +kernel) rfl) pa_nil))))) (pw_or1 (pt_cmpR (kop_eqD K (by exact hr.units)) (pv 1) (pe_tup pa_nil) (nomark _))))) (pss_one ps_never) pss_nil)
      (pss_one (ps_for PassesOwn.never rfl (kpi_enumT K T.z_enumerate (pa_cons (pv 1) pa_nil)) (kpg_tup K (n := 2) (pgs_cons (pg_nameA (i := 2) sc_check_rows.nd) (pgs_cons (pg_nameA (i := 3) sc_check_rows.nd) pgs_nil))) (pss_one (ps_if (PW.pt (pw_or (pt_cmpR op_eq (pv 2) (pe_globI T.k_MOST_ROWS) (nomark _)) (pw_or1 (pt_not (pt_val (pe_ok O_is_row (hr.mono (by decide)) (pa_cons (pv 3) (pa_cons (pv 0) (pa_cons (pe_lc (own := [("each", 4)]) rfl sc_check_rows.nd (kpi_tup K (pe_slice (ksl_tupA K) (pv 1) po_none (po_some (pv 2)))) (blkOk_by (by kernel_rfl)) (by intro _ _ _ _ _; exact pg_nameA (i := 4) sc_check_rows.nd) (by intro _ _ _ _ _; exact pts_nil) (by intro _ _ _ _ _; exact (pe_ix (kix_seq K) (pv 4) pe_int (fun _ _ => rfl)))) pa_nil))))))))) (pss_one ps_never) pss_nil))))),
    fun ds P ⟨t, w, nm, B, e, h1, h8, hw, hn, hB, p⟩ => ?_⟩) fun _ _ _ _ _ _ us hl => match us, hl with | [_, _], _ => rfl
  subst e
  have ok1 : okEq (.tup (rowsT t w nm B)) := by
    refine (okN_seqT (k := 3) fun i hi => okN_tup fun d hd => ?_).eq (by decide)
    rcases List.mem_cons.mp hd with e | e
    · rw [e]; exact (okN_str (name_lay (hn.1 i hi))).mono (by decide)
    · rw [List.mem_singleton.mp
          e]
      refine okN_seqT fun k hk => okN_tup fun d hd => ?_
      rcases List.mem_cons.mp hd with e | e
      · rw [e]; exact okN_int _
      · rw [List.mem_singleton.mp e]; exact okN_int _
  walk_at "ev"
  refine ⟨ok1, okE_nilT, ?_⟩
  rw [eqv_nilT]
  have hne : (rowsT t w nm B).isEmpty = false := by
    cases h : rowsT t w nm B with
    | nil =>
      have := congrArg
          List.length h
      unfold rowsT at this
      rw [seqD_len] at this
      simp at this
      omega
    | cons _ _ => rfl
  rw [hne]
  walk_at "ev"
  unfold rowsT
  rw [enum_seq]
  refine for_seq [2, 3] (fun i ρ => Stop (∃ d1 d2, ρ = [.dat (.int (w : Nat)), .dat (.tup (rowsT t w nm B)), d1, d2, .any])) (stop ⟨.any, .any, rfl⟩) (fun i ρ hi hp => ?_) (fun ρ hp => ?_)
  · obtain ⟨d1, d2, e⟩ := hp.go
    subst e
    walk_at "ev"
    refine ite_dec (fun h => ?_) (fun _ => ?_)
    · injection h with h
      omega
    walk_at "ev"
    have hc : Dl.cutD (rowsT t w nm B) none (some (i : Int)) = seqD i fun i => .tup [.str (nm i), .tup (strD w (B i))] := by
      unfold rowsT
      rw [cut_pre (by omega)]
    rw [hc]
    refine lcd_seq (fun j => .str (nm j)) (by omega) rfl (fun j hj => ?_) ?_
    · walk_at "ev"
      rfl
    walk_at "ev"
    refine ⟨w, nm i, B i, (List.range i).map nm, by rw [seq_strs], hw, hn.1 i hi, not_before hn hi, fun k hk => hB i k hi hk, ?_⟩
    walk_at "ev"
    exact stop ⟨_, _, rfl⟩
  · obtain ⟨d1, d2, e⟩ := hp.go
    subst e
    walk_at "ev"
    exact p
/-- what an __init__ promises: the fields ns get the data; what it calls may make things -/
def spJ (K : PySem.W.Frag) (C : Addr) (ns : List Str) (S : List D → Prop) : Sp := fun vs H1 Q _ => ∃ x dx rest Hk ds, vs = .ref x :: rest ∧ dx ≠ x ∧ H1 x = some (.ins C dx []) ∧ Hk x = none ∧ Same Hk H1 ∧ RpL K Hk ds rest ∧ ds.length = ns.length ∧ S ds ∧
  ∀ Hk' H2' gs, Same Hk Hk' → Same Hk' H2' → Hk' x = none → H2' x = some (.ins C dx gs) → gs.map (·.1) = ns → RpL K Hk' ds (gs.map (·.2)) → (∀ a o, a ≠ x → H1 a = some o → H2' a = some o) → (∀ a, Hk' a ≠ none → Hk a ≠ none ∨ H1 a = none) → Q .non H2'
theorem w_mkJ {ρ : Dl.Env} {P : PD} {t : TA} {C : Addr} {ns : List Str} {S : List D → Prop} {E : XK} (h : wA K t ρ fun ds ρ1 => ds.length = ns.length ∧ S ds ∧ P (.obj C ns ds) ρ1) : wE K (tMake C (spJ K C ns S) [] E t) ρ P := fun σ Hk H2 A Q q =>
  h σ Hk H2 A _ fun ys ds ρ1 Hk1 H21 ⟨hl, hS, p⟩ A1 T1 r1 x dx hx hdx hne => by
    have kx := A1.free hx
    have keep : ∀ a o, H21 a = some o → upd (upd H21 dx (.own x)) x (.ins C dx []) a = some o := fun a o e => by
      rw [upd_ne (ne_of_none e hx), upd_ne (ne_of_none e hdx)]; exact e
    refine ⟨x, dx, ys, Hk1, ds, by rw [List.append_nil], hne, upd_same, kx, fun a o e => keep a o (A1.sub a o e), r1, hl, hS, fun Hk' H2' gs s1 s2 nx hX hn hr hk hnew => ⟨rfl, ?_⟩⟩
    have e1 : Same Hk' (upd Hk' x (.ins C dx gs)) := fun a o e => by rw [upd_ne (ne_of_none e nx)]; exact e
    have s3 : Same (upd Hk' x (.ins C dx gs)) H2' := fun a o e => by
      by_cases z : a = x
      · subst z; rw [upd_same] at e; rw [← e]; exact hX
      · rw [upd_ne z] at e; exact s2 a o e
    have k2 : ∀ a o, H21 a = some o → H2' a = some o := fun a o e => hk a o (ne_of_none e hx) (keep a o e)
    have n2 : ∀ a, upd Hk' x (.ins C dx gs) a ≠ none → Hk1 a ≠ none ∨ H21 a = none := fun a e => by
      by_cases z : a = x
      · rw [z]; exact .inr hx
      · rw [upd_ne z] at e
        rcases hnew a e with y | y
        · exact .inl y
        · by_cases v : a = dx
          · rw [v]; exact .inr hdx
          · rw [upd_ne z, upd_ne v] at y; exact .inr y
    have A2 : At K ρ1 σ (upd Hk' x (.ins C dx gs)) H2' := A1.grow (s1.trans e1) s3 k2 n2
    have T2 : Tr (Own ρ1 σ) Hk1 H21 (Own ρ1 σ) (upd Hk' x (.ins C dx gs)) H2' := ⟨s1.trans e1, fun a o e _ => k2 a o e, fun a e => (n2 a e).imp id .inl, fun a e => .inl e⟩
    exact q _ _ ρ1 _ H2' p A2 (T1.trans T2) ⟨x, dx, gs, rfl, upd_same, hn, hr.mono e1⟩
theorem O_Table_init (T : Tx K mg) (O_check_columns : OkD Pr w K mg base 2 "check_columns" ["value"] S_check_columns) (O_check_rows : OkD Pr w K mg base 6 "check_rows" ["many", "value"] S_check_rows) : OkI Pr w K mg base 7 CTable ["self", "columns", "rows"] (spJ K CTable ["heads", "lines"] S_Table) := by
  refine okI_mk T.i_Table sc_Table__init (fun vs H Q E ⟨x, dx, rest, Hk, ds, e, _, _, _, _, r, hl, _⟩ => by rw [e, List.length_cons, r.length, hl]; rfl) (fun f cdv A outer s H E hr => ⟨_, 
    (pss_cons (ps_expr (pe_ok O_check_columns (hr.mono (by decide)) (pa_cons (pv 1) pa_nil)))
      (pss_cons (ps_expr (pe_ok O_check_rows (hr.mono (by decide)) (pa_cons (pe_callB (kcall_len K) rfl T.z_len PySem.boot_len (pa_cons (pv 1) pa_nil)) (pa_cons (pv 2) pa_nil))))
      (pss_cons (ps_fld (pv 0) (pv 1) rfl)
      (pss_one (ps_fld (pv 0) (pv 2) rfl))))),
    fun vs H Q E h => ?_⟩) fun _ _ _ _ _ _ us hl => match us, hl with | [_, _, _], _ => rfl
  obtain ⟨x, dx, rest, Hk, ds, e, hne, hx, kx, sub, r, hl, hS, q⟩ := h
  subst e
  obtain ⟨t, w', hd, nm, B, e, ok⟩ := hS
  subst e
  have ht8 := ok.t8
  have hw4 := ok.w4
  have A0 := at_start (N := ["self", "columns", "rows"]) (ds := [.v (.ref x), .tup (headsD w' hd), .tup (rowsT t w' nm B)]) (vs := .ref x :: rest) sub ⟨_, _, rfl, rfl, r⟩
  have h1 : wS K (tDrop (tCall (spD K S_check_columns) [] E0 (tCons (tVar 1) tNil))) (envOf ["self", "columns", "rows"] [.v (.ref x), .tup (headsD w' hd), .tup (rowsT t w' nm B)]) ⟨fun ρ => ρ = envOf ["self", "columns", "rows"] [.v (.ref x), .tup (headsD w' hd), .tup (rowsT t w' nm B)], fun _ _ => False, fun _ => False, fun _ => False⟩ := by
    refine w_drop (w_call (w_cons (w_var rfl (w_nil ⟨w', hd, rfl, ok.w1, by omega, ok.hd, rfl⟩))))
  have h2 : wS K (tDrop (tCall (spD K S_check_rows) [] E0 (tCons (tCB (fun xs H Q => ∃ p ys, xs = [V.ref p] ∧ (SqL K H p ys ∨ SqT K H p ys) ∧ Q (V.int ys.length) H) (tCons (tVar 1) tNil)) (tCons (tVar 2) tNil)))) (envOf ["self", "columns", "rows"] [.v (.ref x), .tup (headsD w' hd), .tup (rowsT t w' nm B)]) ⟨fun ρ => ρ = envOf ["self", "columns", "rows"] [.v (.ref x), .tup (headsD w' hd), .tup (rowsT t w' nm B)], fun _ _ => False, fun _ => False, fun _ => False⟩ := by
    have hl : (headsD w' hd).length = w' := by unfold headsD; rw [seqD_len]
    refine w_drop (w_call (w_cons (w_cb ca_len (w_cons (w_var rfl (w_nil ⟨_, _, rfl, rfl, w_cons (w_var rfl (w_nil ⟨t, w', nm, B, by rw [hl], ok.t1, by omega, by omega, ok.nm, fun i k hi hk => ?_, rfl⟩))⟩))))))
    have h := ok.B i k hi hk
    exact ⟨by have := h.1; omega, h.2.1, by have := h.2.2; omega⟩
  refine h1 _ Hk H _ A0 (fun ρ' σ' Hk' H2' e A' T' => ?_) (fun _ _ _ _ _ _ z => z.elim) (fun _ _ _ _ z => z.elim) (fun _ _ _ _ z => z.elim)
  subst e
  refine h2 _ Hk' H2' _ A' (fun ρ'' σ'' Hk'' H2'' e A'' T'' => ?_) (fun _ _ _ _ _ _ z => z.elim) (fun _ _ _ _ z => z.elim) (fun _ _ _ _ z => z.elim)
  subst e
  have nO : ∀ (σ : L2.St) a, ¬ Own (envOf ["self", "columns", "rows"] [.v (.ref x), .tup (headsD w' hd), .tup (rowsT t w' nm B)]) σ a := fun σ a => noOwn
  obtain ⟨y0, e0, r0⟩ := A''.get (i := 0) rfl
  obtain rfl : y0 = .ref x := r0
  obtain ⟨y1, e1, r1⟩ := A''.get (i := 1) rfl
  obtain ⟨y2, e2, r2⟩ := A''.get (i := 2) rfl
  have TT := T'.trans T''
  have hx2 : H2'' x = some (.ins CTable dx []) := TT.fro _ _ hx (nO _ _)
  have kx2 : Hk'' x = none := by
    cases z : Hk'' x with
    | none => rfl
    | some u =>
      rcases TT.new x (by rw [z]; exact fun y => nomatch y) with y | y | y
      · exact absurd kx y
      · rw [hx] at y; exact nomatch y
      · exact absurd y (nO _ _)
  refine ⟨y1, e1, .ref x, e0, x, _, dx, [], rfl, hx2, T.c_Table, T.n_Table_heads, by decide, ?_⟩
  refine ⟨y2, e2, .ref x, e0, x, _, dx, _, rfl, upd_same, T.c_Table, T.n_Table_lines, (show 1 < 1000 by decide), ?_⟩
  refine q Hk'' _ [("heads", y1), ("lines", y2)] TT.ex (fun a o h => ?_) kx2 upd_same rfl ⟨y1, _, rfl, r1, y2, _, rfl, r2, rfl⟩ (fun a o n h => ?_) (fun a h => (TT.new a h).imp id fun z => z.elim id fun z => absurd z (nO _ _))
  · have n : a ≠ x := fun z => by rw [z, kx2] at h; exact nomatch h
    rw [upd_ne n, upd_ne n]
    exact A''.sub a o h
  · rw [upd_ne n, upd_ne n]
    exact TT.fro _ _ h (nO _ _)
end
end Cs
set_option Elab.async false
set_option linter.all false
set_option maxRecDepth 100000
set_option maxHeartbeats 1200000
/-! Corner mixes, what bars. -/
namespace Cs
open PySem PySem.Spec PyProof.Rows L2 StX Dl Mx
section
variable {K : PySem.W.Frag} {mg : Str → Option Value}
theorem w_fldW {ta : TE} {ρ : Dl.Env} {P : PD} (T : Tx K mg) (h : wE K ta ρ fun d ρ1 => ∃ ns ds e, d = .obj COutcome ns ds ∧ fieldOf "word" ns ds = some e ∧ P e ρ1) : wE K (tFld K ta "word") ρ P := w_fld T.c_Outcome T.n_Outcome_word h
theorem w_fldP {ta : TE} {ρ : Dl.Env} {P : PD} (T : Tx K mg) (h : wE K ta ρ fun d ρ1 => ∃ ns ds e, d = .obj COutcome ns ds ∧ fieldOf "point" ns ds = some e ∧ P e ρ1) : wE K (tFld K ta "point") ρ P := w_fld T.c_Outcome T.n_Outcome_point h
theorem w_fldG {ta : TE} {ρ : Dl.Env} {P : PD} (T : Tx K mg) (h : wE K ta ρ fun d ρ1 => ∃ ns ds e, d = .obj COutcome ns ds ∧ fieldOf "weights" ns ds = some e ∧ P e ρ1) : wE K (tFld K ta "weights") ρ P := w_fld T.c_Outcome T.n_Outcome_weights h
end
local macro_rules | `(tactic| walk_at "ev1") => `(tactic| first
  | with_reducible refine w_seq ?_
  | with_reducible refine ite_true' ?_
  | with_reducible refine ite_false' ?_
  | with_reducible refine ite_nt ?_
  | with_reducible refine ite_nf ?_
  | with_reducible refine w_next ?_
  | with_reducible refine w_ret ?_
  | with_reducible refine w_set ?_
  | with_reducible refine w_par ?_
  | with_reducible refine w_par3 ?_
  | with_reducible refine w_drop ?_
  | with_reducible refine w_ifS ?_
  | refine w_var rfl ?_
  | with_reducible refine w_cd (zeroR (by assumption)) ?_
  | with_reducible refine w_cd (oneR (by assumption)) ?_
  | with_reducible refine w_c ?_
  | with_reducible refine w_yes ?_
  | with_reducible refine w_cons ?_
  | with_reducible refine w_star ?_
  | with_reducible refine w_nil ?_
  | with_reducible refine w_tup ?_
  | with_reducible refine w_lst ?_
  | with_reducible refine w_neg ?_
  | with_reducible refine w_if ?_
  | with_reducible refine w_test ?_
  | with_reducible refine w_B ?_
  | with_reducible refine w_not ?_
  | with_reducible refine w_notV ?_
  | with_reducible refine w_and ?_
  | with_reducible refine w_or ?_
  | with_reducible refine w_andV ?_
  | with_reducible refine w_orV ?_
  | with_reducible refine w_op od_I0 ?_
  | with_reducible refine w_op od_I ?_
  | with_reducible refine w_op od_ix ?_
  | with_reducible refine w_op od_ixL ?_
  | with_reducible refine w_op od_ixT ?_
  | with_reducible refine w_op od_eq ?_
  | with_reducible refine w_op od_ne ?_
  | with_reducible refine w_op od_isN ?_
  | with_reducible refine w_op od_notN ?_
  | with_reducible refine w_op od_cat ?_
  | with_reducible refine w_op od_catA ?_
  | with_reducible refine w_op od_rep ?_
  | with_reducible refine w_op od_repN ?_
  | with_reducible refine w_op od_eqD ?_
  | with_reducible refine w_op od_neD ?_
  | with_reducible refine w_op od_in ?_
  | with_reducible refine w_op od_notInD ?_
  | with_reducible refine w_slL ?_
  | with_reducible refine w_slT ?_
  | with_reducible refine w_noPart ?_
  | with_reducible refine w_some ?_
  | with_reducible refine w_call ?_
  | with_reducible refine w_cb ca_len ?_
  | with_reducible refine w_cb ca_len_str ?_
  | with_reducible refine w_cb ca_list ?_
  | with_reducible refine w_cb ca_tuple ?_
  | with_reducible refine w_cb ca_abs ?_
  | with_reducible refine w_cb ca_int ?_
  | with_reducible refine w_cb ca_all ?_
  | with_reducible refine w_cb ca_repr ?_
  | with_reducible refine w_lc ?_
  | with_reducible refine w_lc2 ?_
  | with_reducible refine w_for ?_
  | with_reducible refine w_meth ?_
  | with_reducible refine w_prop ?_
  | with_reducible refine w_mk ?_
  | with_reducible refine w_dc ?_
  | with_reducible refine w_dget2 ?_
  | with_reducible refine w_lstRg ?_
  | with_reducible refine w_cb ca_isi ?_
  | with_reducible refine w_cb ca_isC ?_
  | with_reducible refine w_cb ca_divmod ?_
  | with_reducible refine w_op od_inSign ?_
  | with_reducible refine i_enumA ?_
  | with_reducible refine i_zipTL ?_
  | with_reducible refine i_enumZip ?_
  | with_reducible refine i_zipTT ?_
  | with_reducible refine g_tup ?_
  | refine ⟨_, rfl, rfl, ?_⟩
  | with_reducible refine g_cons ?_
  | with_reducible refine g_name (by decide) ?_
  | with_reducible refine g_nil ?_
  | with_reducible refine w_asg (js := List.range 40) ?_
  | refine ⟨okEq_fr _, okEq_fr _, ?_⟩
  | with_reducible refine i_list ?_
  | with_reducible refine i_tup ?_
  | with_reducible refine i_rng1 ?_
  | with_reducible refine i_rng2 ?_
  | with_reducible refine i_enum ?_
  | with_reducible refine i_zip ?_
  | with_reducible refine i_str ?_
  | refine ⟨Nat.le_of_ble_eq_true rfl, ?_⟩
  | refine ⟨_, rfl, ?_⟩
  | refine ⟨_, _, rfl, ?_⟩
  | refine ⟨_, _, _, rfl, ?_⟩
  | refine ⟨_, _, _, _, rfl, rfl, rfl, ?_⟩
  | refine ⟨_, _, rfl, by decide, ?_⟩
  | refine ⟨_, _, rfl, rfl, ?_⟩
  | refine ⟨_, _, _, rfl, rfl, rfl, ?_⟩
  | refine ⟨_, _, _, rfl, rfl, ?_⟩
  | refine ⟨_, _, _, rfl, rfl, seqD_atI (by first | assumption | omega), ?_⟩
  | refine ⟨_, _, _, _, rfl, ?_⟩
  | refine ⟨_, _, _, _, _, rfl, ?_⟩
  | refine ⟨rfl, ?_⟩
  | refine ⟨by decide +kernel, ?_⟩)
local macro_rules | `(tactic| walk_at "ev") => `(tactic| repeat walk_at "ev1")
local macro_rules | `(tactic| walk_at "wk") => `(tactic| repeat (first | exact True.intro | refine ⟨.inr rfl, ?_⟩ | refine ⟨.inl rfl, ?_⟩))
local macro_rules | `(tactic| walk_at "ev1") => `(tactic| first
  | with_reducible refine w_chain od_I0 od_I0 ?_
  | with_reducible refine w_fldW (by assumption) ?_
  | with_reducible refine w_fldP (by assumption) ?_
  | with_reducible refine w_fldG (by assumption) ?_)
theorem lcd_map {α : Type} {K : PySem.W.Frag} {P : PD} {ρ1 : Dl.Env} {g : TG} {tt : TT} {te : TE} {vs : List Nat} {L : List α} {f : α → D} (e : α → D) (hn : L.length ≤ 100000) (hw : wipeS ρ1 vs = ρ1)
    (h : ∀ a, a ∈ L → wG K vs g (f a) ρ1 fun ρ3 => wT K tt ρ3 fun b ρ4 => b = true ∧ wE K te ρ4 fun e' ρ5 => e' = e a ∧ wipeS ρ5 vs = ρ1) (p : P (.lst (L.map e)) ρ1) : LcD K g tt te vs P (L.map f) ρ1 := by
  refine lcd_to (L.map e) (by rw [List.length_map, List.length_map]) (by rw [List.length_map]; exact hn) hw (fun i d e' hd he => ?_) p
  rw [List.getElem?_map] at hd he
  cases hc : L[i]? with
  | none => rw [hc] at hd; exact nomatch hd
  | some a =>
    rw [hc] at hd he
    obtain rfl := Option.some.inj hd
    obtain rfl := Option.some.inj
        he
    exact h a (List.mem_of_getElem? hc)
theorem for_map {α : Type} {K : PySem.W.Frag} {g : TG} {t : TS} {E : De} {L : List α} {f : α → D} {ρ1 : Dl.Env} (js : List Nat) (Pv : Nat → Dl.Env → Prop) (h0 : Pv 0 ρ1) (hs : ∀ i a ρ2, L[i]? = some a → Pv i ρ2 → wG K js g (f a) ρ2 fun ρ3 => wS K t ρ3 ⟨Pv (i + 1), E.rt, E.nx, Pv (i + 1)⟩) (hd : ∀ ρ2, Pv L.length ρ2 → E.nx ρ2) : ForD K g t E (L.map f) ρ1 := by
  refine ⟨js, Pv, h0, fun i d ρ2 hd' hp => ?_, by rw [List.length_map]; exact hd⟩
  rw [List.getElem?_map] at hd'
  cases hc : L[i]? with
  | none => rw [hc] at hd'; exact nomatch hd'
  | some a =>
    rw [hc] at hd'
    obtain rfl := Option.some.inj hd'
    exact hs i a ρ2 hc hp
theorem find_at {α : Type} {L : List α} {p : α → Bool} {i : Nat} {a : α} (h : L[i]? = some a) (hp : p a = true) (hb : ∀ q ∈ L.take i, p q = false) : L.find? p = some a := by
  have hi := (List.getElem?_eq_some_iff.mp h).1
  have e : L = L.take i ++ a :: L.drop (i + 1) := by
    have h1 : L.drop i = a :: L.drop (i + 1) := by rw [List.drop_eq_getElem_cons hi, (List.getElem?_eq_some_iff.mp h).2]
    rw [← h1, List.take_append_drop]
  rw [e, List.find?_append, List.find?_eq_none.mpr fun q hq => by rw [hb q hq]; exact Bool.false_ne_true, List.find?_cons, hp]
  rfl
def Wd (B : Bd) (s : Nat → Int) : Nat → Nat → Int := fun k j => if s k > 0 then (B j k).2 else -(B j k).1
def gd (G : Tg) (s : Nat → Int) : Nat → Int := fun k => if s k > 0 then (G k).2 else -(G k).1
def wantsD (t w : Nat) (W : Nat → Nat → Int) (g : Nat → Int) : List D := seqD w fun k => .tup [.lst (rowD t fun j => (W k j : Rat)), fr (g k : Rat)]
noncomputable def outcome (m n : Nat) (A : Nat → Nat → Int) (b : Nat → Int) : D := if p1 m n A b 0 = 0 then outD (.str "best") (.tup (rowD n (pnt m n A b))) (fr 0) (.tup (rowD m fun _ => 0)) else outD (.str "none") .non .non (.tup (rowD m (wts m n A b)))
noncomputable def mixD (m n : Nat) (A : Nat → Nat → Int) (b : Nat → Int) : D := if p1 m n A b 0 = 0 then .tup (rowD n (pnt m n A b)) else .non
section
variable (t w : Nat) (B : Bd) (G : Tg) (r : List Int)
def cA : Nat → Nat → Int := mA w (Wd B (sv r))
def cb : Nat → Int := mb w (gd G (sv r))
noncomputable def bad : Bool := !decide (p1 (w + 2) t (cA w B r) (cb w G r) 0 = 0)
noncomputable def blD : D := mixD (w + 2) t (cA w B r) (cb w G r)
noncomputable def barD : D := match (marks w).find? (bad t w B G) with
  | none => .non
  | some r => .tup [sgD r, .tup (rowD w (wts (w + 2) t (cA w B r) (cb w G r)))]
end
def S_ends_at : PS1 := fun ds P => ∃ (t w : Nat) (hd nm : Nat → Str) (B : Bd) (k e : Nat), ds = [tabD t w hd nm B, .int (k : Nat), .int (e : Nat)] ∧ t ≤ 8 ∧ k < w ∧ e < 2 ∧ P (.lst (seqD t fun j => .int (if e = 1 then (B j k).2 else (B j k).1)))
def S_most_row : PS1 := fun ds P => ∃ (t w : Nat) (hd nm : Nat → Str) (B : Bd) (G : Tg) (k : Nat), ds = [tabD t w hd nm B, .tup (strD w G), .int (k : Nat), .int 1, .int 1] ∧ t ≤ 8 ∧ k < w ∧ P (.tup [.lst (rowD t fun j => ((B j k).2 : Rat)), fr ((G k).2 : Rat)])
def S_least_row : PS1 := fun ds P => ∃ (t w : Nat) (hd nm : Nat → Str) (B : Bd) (G : Tg) (k : Nat), ds = [tabD t w hd nm B, .tup (strD w G), .int (k : Nat), .int 0, .int 0] ∧ t ≤ 8 ∧ k < w ∧ P (.tup [.lst (rowD t fun j => ((-(B j k).1 : Int) : Rat)), fr ((-(G k).1 : Int) : Rat)])
def S_corner_rows : PS1 := fun ds P => ∃ (t w : Nat) (hd nm : Nat → Str) (B : Bd) (G : Tg) (s : Nat → Int), ds = [tabD t w hd nm B, .tup (strD w G), sgS w s] ∧ t ≤ 8 ∧ w ≤ 4 ∧ P (.lst (wantsD t w (Wd B s) (gd G s)))
def S_no_prices : PS1 := fun ds P => ∃ (t w : Nat) (hd nm : Nat → Str) (B : Bd), ds = [tabD t w hd nm B] ∧ 1 ≤ t ∧ t ≤ 8 ∧ P (.tup (seqD t fun _ => .int 0))
def S_cheapest_of : PS1 := fun ds P => ∃ (t w : Nat) (hd nm : Nat → Str) (B : Bd) (W : Nat → Nat → Int) (g : Nat → Int), ds = [tabD t w hd nm B, .lst (wantsD t w W g), .tup (seqD t fun _ => .int 0)] ∧ Small (w + 2) t (mA w W) (mb w g) ∧ P (outcome (w + 2) t (mA w W) (mb w g))
def S_mix_in : PS1 := fun ds P => ∃ (m n : Nat) (A : Nat → Nat → Int) (b : Nat → Int), ds = [outcome m n A b] ∧ P (mixD m n A b)
def AimOk (w : Nat) (G : Tg) : Prop := ∀ k, k < w → StOk 14 (G k)
def S_corner_mix : PS1 := fun ds P => ∃ (t w : Nat) (hd nm : Nat → Str) (B : Bd) (G : Tg) (r : List Int), ds = [tabD t w hd nm B, .tup (strD w G), sgD r] ∧ TabOk t w hd nm B ∧ AimOk w G ∧ r ∈ marks w ∧ P (blD t w B G r)
def S_all_corners : PS1 := fun ds P => ∃ (t w : Nat) (hd nm : Nat → Str) (B : Bd) (G : Tg), ds = [tabD t w hd nm B, .tup (strD w G), .tup (seqD t fun _ => .int 0)] ∧ TabOk t w hd nm B ∧ AimOk w G ∧ P (.lst ((marks w).map fun r => .tup [sgD r, outcome (w + 2) t (cA w B r) (cb w G r)]))
def S_barring_of : PS1 := fun ds P => ∃ (t w : Nat) (hd nm : Nat → Str) (B : Bd) (G : Tg), ds = [tabD t w hd nm B, .tup (strD w G)] ∧ TabOk t w hd nm B ∧ AimOk w G ∧ P (barD t w B G)
def S_is_served : PS1 := fun ds P => ∃ (t w : Nat) (hd nm : Nat → Str) (B : Bd) (G : Tg), ds = [tabD t w hd nm B, .tup (strD w G)] ∧ TabOk t w hd nm B ∧ AimOk w G ∧ P (.bl (Dl.isNon (barD t w B G)))
theorem corner_small {t w : Nat} {hd nm : Nat → Str} {B : Bd} {G : Tg} (h : TabOk t w hd nm B) (hG : AimOk w G) (s : Nat → Int) : Small (w + 2) t (mA w (Wd B s)) (mb w (gd G s)) := by
  refine ⟨by have := h.w4; omega, h.t8, fun i j hi hj => ?_, fun i hi => ?_⟩
  · unfold mA
    split
    · have h1 := h.B j i hj (by assumption)
      unfold StOk at h1
      unfold Wd
      split <;> omega
    · split <;> decide
  · unfold mb
    split
    · have h1 := hG i (by assumption)
      unfold StOk at h1
      unfold gd
      split <;> omega
    · split <;> decide
section
variable {Pr : Program} {w : World} {K : PySem.W.Frag} {mg : Str → Option Value} {base : Heap}
theorem sc_ends_at : FnScope ["table", "place", "end", "name", "stretches"] ["table", "place", "end"] (defScope s_ends_at) := ⟨rfl, rfl, rfl, by decide +kernel, rfl, by decide +kernel, by decide +kernel⟩
theorem sc_most_row : FnScope ["table", "target", "place", "end", "goal", "number"] ["table", "target", "place", "end", "goal"] (defScope s_most_row) := ⟨rfl, rfl, rfl, by decide +kernel, rfl, by decide +kernel, by decide +kernel⟩
theorem sc_least_row : FnScope ["table", "target", "place", "end", "goal", "number"] ["table", "target", "place", "end", "goal"] (defScope s_least_row) := ⟨rfl, rfl, rfl, by decide +kernel, rfl, by decide +kernel, by decide +kernel⟩
theorem sc_cheapest_of : FnScope ["table", "rows", "prices", "many", "numbers", "bounds", "row", "bound", "price"] ["table", "rows", "prices"] (defScope s_cheapest_of) := ⟨rfl, rfl, rfl, by decide +kernel, rfl, by decide +kernel, by decide +kernel⟩
theorem sc_corner_rows : FnScope ["table", "target", "signs", "place", "sign"] ["table", "target", "signs"] (defScope s_corner_rows) := ⟨rfl, rfl, rfl, by decide +kernel, rfl, by decide +kernel, by decide +kernel⟩
theorem sc_no_prices : FnScope ["table"] ["table"] (defScope s_no_prices) := ⟨rfl, rfl, rfl, by decide +kernel, rfl, by decide +kernel, by decide +kernel⟩
theorem sc_all_corners : FnScope ["table", "target", "prices", "signs"] ["table", "target", "prices"] (defScope s_all_corners) := ⟨rfl, rfl, rfl, by decide +kernel, rfl, by decide +kernel, by decide +kernel⟩
theorem sc_barring_of : FnScope ["table", "target", "signs", "found"] ["table", "target"] (defScope s_barring_of) := ⟨rfl, rfl, rfl, by decide +kernel, rfl, by decide +kernel, by decide +kernel⟩
theorem sc_mix_in : FnScope ["found"] ["found"] (defScope s_mix_in) := ⟨rfl, rfl, rfl, by decide +kernel, rfl, by decide +kernel, by decide +kernel⟩
theorem sc_corner_mix : FnScope ["table", "target", "signs"] ["table", "target", "signs"] (defScope s_corner_mix) := ⟨rfl, rfl, rfl, by decide +kernel, rfl, by decide +kernel, by decide +kernel⟩
theorem sc_is_served : FnScope ["table", "target"] ["table", "target"] (defScope s_is_served) := ⟨rfl, rfl, rfl, by decide +kernel, rfl, by decide +kernel, by decide +kernel⟩
theorem sc_barring : FnScope ["table", "target"] ["table", "target"] (defScope s_barring) := ⟨rfl, rfl, rfl, by decide +kernel, rfl, by decide +kernel, by decide +kernel⟩
theorem both3 {x : Str} {st : Stmt} {N ps ks : List Str} {k : Nat} {S : PS1} (h : ∃ f fd, Fun K x x st f fd ∧ mg x = some (.ref f)) (sc : FnScope N ps (defScope st)) (hlen : ∀ ds P, S ds P → ds.length = ps.length)
    (body : ∀ (f : Addr) (cdv : Value) (A : Around) (outer : List PySem.Env) (s : Shared) (H : Hp) (E : XK), Room k (A.deeper (envOfC x (defScope st) s.heap.objs.size f cdv)) →
      ∃ t, PSs (cxOf CX0 Pr w K mg base N x (defScope st) f cdv A outer s H E).nox (defBody st) t ∧ ∀ ds P, S ds P → wS K t (envOf N ds) ⟨fun _ => P .non, fun d _ => P d, fun _ => False, fun _ => False⟩)
    (hb : ∀ (kV doc pm : Value) (an : Option Addr) (cdv ct : Value) (us : List Value), us.length = ps.length → bindArgs (PySem.W.fnOf x x (defArgs st) (defBody st) (defScope st) .none kV doc pm an cdv ct) ⟨us, []⟩ = pure (ps.zip us))
    (kb : ∀ (kV doc pm : Value) (an : Option Addr) (cdv ct : Value) (ws : List Value), (back ([] : List Value) ws).length = ps.length → bindArgs (PySem.W.fnOf x x (defArgs st) (defBody st) (defScope st) .none kV doc pm an cdv ct) ⟨[], ks.zip ws⟩ = pure (ps.zip (back [] ws))) (hp : 0 < ps.length) : Ok Pr w K mg base (k + 1) x ps (spD K S) ∧ OkK Pr w K mg base (k + 1) x ps ks (spD K S) := by
  obtain ⟨f, fd, F, hm⟩ := h
  have ok := okD (Pr := Pr) (w := w) (mg := mg) (base := base) F sc hlen (fun cdv A outer s H E hr => body f cdv A outer s H E hr)
  refine ⟨⟨f, fd, ok, F.binds hb, hm, F.kp⟩, ⟨f, fd, ok, ⟨fun s us ws _ hl => ?_, back_vals⟩, hm, F.kp⟩⟩
  cases us with
  | cons u us =>
    have hl' : 0 = ps.length := hl
    omega
  | nil =>
    obtain ⟨oc, od, kV, doc, pm, an, cdv, ct, osl, rfl, lk, hcd⟩ :=
        F.ex
    exact .of_eq (kb kV doc pm an cdv ct ws hl)
theorem O_ends_at (T : Tx K mg) (O_Table_rows : OkP Pr w K mg base 1 CTable "rows" ["self"] (spD K S_rows)) : OkD Pr w K mg base 3 "ends_at" ["table", "place", "end"] S_ends_at := by
  refine ok_mk T.f_ends_at sc_ends_at (fun ds P ⟨a, b, c, d, f, g, h, e, _⟩ => by rw [e]; rfl) (fun f cdv A outer s H E hr => ⟨_, 
    (pss_one (ps_ret (pe_lc (own := [("name", 3), ("stretches", 4)]) rfl sc_ends_at.nd (kpi_tup K (pe_okP T.c_Table O_Table_rows (hr.mono (by decide)) (pv 0))) (blkOk_by (by kernel_rfl)) (by intro _ _ _ _ _; exact (kpg_tup K (n := 2) (pgs_cons (pg_nameA (i := 3) sc_ends_at.nd) (pgs_cons (pg_nameA (i := 4) sc_ends_at.nd) pgs_nil)))) (by intro _ _ _ _ _; exact pts_nil) (by intro _ _ _ _ _; exact (pe_ix (kix_seq K) (pe_ix (kix_seq K) (pv 4) (pv 1) (fun _ _ => rfl)) (pv 2) (fun _ _ => rfl)))))),
    fun ds P ⟨t, w, hd, nm, B, k, ee, e, ht, hk, he, p⟩ => ?_⟩) fun _ _ _ _ _ _ us hl => match us, hl with | [_, _, _], _ => rfl
  subst e
  walk_at "ev"
  unfold rowsT
  refine lcd_seq (fun j => .int (if ee = 1 then (B j k).2 else (B j k).1)) (by omega) rfl (fun j hj => ?_) p
  unfold strD
  walk_at "ev"
  rcases (show ee = 0 ∨ ee = 1 by omega) with e | e <;> subst e
  · exact ⟨_, 0, _, rfl, rfl, rfl, rfl, rfl⟩
  · exact ⟨_, 1, _, rfl, rfl, rfl, rfl, rfl⟩
theorem O_no_prices (T : Tx K mg) (O_Table_rows : OkP Pr w K mg base 1 CTable "rows" ["self"] (spD K S_rows)) : OkD Pr w K mg base 3 "no_prices" ["table"] S_no_prices := by
  refine ok_mk T.f_no_prices sc_no_prices (fun ds P ⟨a, b, c, d, f, e, _⟩ => by rw [e]; rfl) (fun f cdv A outer s H E hr => ⟨_, 
    (pss_one (ps_ret (pe_op (kop_repT1 K) (pe_tup (pa_cons pe_int pa_nil)) (pe_callB (kcall_len K) rfl T.z_len PySem.boot_len (pa_cons (pe_okP T.c_Table O_Table_rows (hr.mono (by decide)) (pv 0)) pa_nil))))),
    fun ds P ⟨t, w, hd, nm, B, e, h1, h8, p⟩ => ?_⟩) fun _ _ _ _ _ _ us hl => match us, hl with | [_], _ => rfl
  subst e
  walk_at "ev"
  have hl : (rowsT t w nm B).length = t := by unfold rowsT; rw [seqD_len]
  rw [hl]
  refine ⟨⟨by omega, by omega⟩, by decide, ?_⟩
  rw [rep_seq, show ((t : Nat) : Int).toNat = t by omega]
  exact p
theorem O_mix_in (T : Tx K mg) : OkD Pr w K mg base 1 "mix_in" ["found"] S_mix_in := by
  refine ok_mk T.f_mix_in sc_mix_in (fun ds P ⟨a, b, c, d, e, _⟩ => by rw [e]; rfl) (fun f cdv A outer s H E hr => ⟨_, 
    (pss_one (ps_ret (pe_ifExp (pt_cmpR op_eq (kpe_fld K (pv 0)) pe_str (nomark _)) pe_non (kpe_fld K (pv 0))))),
    fun ds P ⟨m, n, A, b, e, p⟩ => ?_⟩) fun _ _ _ _ _ _ us hl => match us, hl with | [_], _ => rfl
  subst e
  unfold outcome
  unfold mixD at p
  by_cases h : p1 m n A b 0 = 0
  · rw [if_pos h] at p ⊢
    unfold outD
    walk_at "ev"
    refine ite_dec (fun z => absurd z (by decide +kernel)) (fun _ => ?_)
    walk_at "ev"
    exact p
  · rw [if_neg h] at p ⊢
    unfold outD
    walk_at "ev"
    refine ite_dec (fun _ => ?_) (fun z => absurd rfl z)
    walk_at "ev"
    exact p
theorem O_most_row (T : Tx K mg) (O_ends_at : OkD Pr w K mg base 3 "ends_at" ["table", "place", "end"] S_ends_at) : OkD Pr w K mg base 4 "most_row" ["table", "target", "place", "end", "goal"] S_most_row := by
  refine ok_mk T.f_most_row sc_most_row (fun ds P ⟨a, b, c, d, f, g, h, e, _⟩ => by rw [e]; rfl) (fun f cdv A outer s H E hr => ⟨_, 
    (pss_one (ps_ret (pe_tup (pa_cons (pe_lc (own := [("number", 5)]) rfl sc_most_row.nd (kpi_list K (pe_ok O_ends_at (hr.mono (by decide)) (pa_cons (pv 0) (pa_cons (pv 2) (pa_cons (pv 3) pa_nil))))) (blkOk_by (by kernel_rfl)) (by intro _ _ _ _ _; exact pg_nameA (i := 5) sc_most_row.nd) (by intro _ _ _ _ _; exact pts_nil) (by intro _ _ _ _ _; exact (pe_tup (pa_cons (pv 5) (pa_cons pe_int pa_nil))))) (pa_cons (pe_tup (pa_cons (pe_ix (kix_seq K) (pe_ix (kix_seq K) (pv 1) (pv 2) (fun _ _ => rfl)) (pv 4) (fun _ _ => rfl)) (pa_cons pe_int pa_nil))) pa_nil))))),
    fun ds P ⟨t, w, hd, nm, B, G, k, e, ht, hk, p⟩ => ?_⟩) fun _ _ _ _ _ _ us hl => match us, hl with | [_, _, _, _, _], _ => rfl
  subst e
  walk_at "ev"
  refine ⟨t, w, hd, nm, B, k, 1, rfl, ht, hk, by decide, ?_⟩
  walk_at "ev"
  refine lcd_seq (fun j => fr ((B j k).2 : Rat)) (by omega) rfl (fun j hj => ?_) ?_
  · refine g_name (by decide) (w_yes ⟨rfl, w_tup (w_cons (w_var rfl (w_cons (w_c (w_nil ⟨show 2 ≤ 100000 by decide, ?_, rfl⟩)))))⟩)
    rw [fr_int]
    rfl
  unfold strD
  walk_at "ev"
  rw [fr_int] at p
  exact p
theorem O_least_row (T : Tx K mg) (O_ends_at : OkD Pr w K mg base 3 "ends_at" ["table", "place", "end"] S_ends_at) : OkD Pr w K mg base 4 "least_row" ["table", "target", "place", "end", "goal"] S_least_row := by
  refine ok_mk T.f_least_row sc_least_row (fun ds P ⟨a, b, c, d, f, g, h, e, _⟩ => by rw [e]; rfl) (fun f cdv A outer s H E hr => ⟨_, 
    (pss_one (ps_ret (pe_tup (pa_cons (pe_lc (own := [("number", 5)]) rfl sc_least_row.nd (kpi_list K (pe_ok O_ends_at (hr.mono (by decide)) (pa_cons (pv 0) (pa_cons (pv 2) (pa_cons (pv 3) pa_nil))))) (blkOk_by (by kernel_rfl)) (by intro _ _ _ _ _; exact pg_nameA (i := 5) sc_least_row.nd) (by intro _ _ _ _ _; exact pts_nil) (by intro _ _ _ _ _; exact (pe_tup (pa_cons (pe_op op_sub pe_int (pv 5)) (pa_cons pe_int pa_nil))))) (pa_cons (pe_tup (pa_cons (pe_op op_sub pe_int (pe_ix (kix_seq K) (pe_ix (kix_seq K) (pv 1) (pv 2) (fun _ _ => rfl)) (pv 4) (fun _ _ => rfl))) (pa_cons pe_int pa_nil))) pa_nil))))),
    fun ds P ⟨t, w, hd, nm, B, G, k, e, ht, hk, p⟩ => ?_⟩) fun _ _ _ _ _ _ us hl => match us, hl with | [_, _, _, _, _], _ => rfl
  subst e
  walk_at "ev"
  refine ⟨t, w, hd, nm, B, k, 0, rfl, ht, hk, by decide, ?_⟩
  walk_at "ev"
  refine lcd_seq (fun j => fr ((-(B j k).1 : Int) : Rat)) (by omega) rfl (fun j hj => ?_) ?_
  · walk_at "ev"
    refine ⟨?_, rfl⟩
    rw [fr_int, ← Int.zero_sub]
    rfl
  unfold strD
  walk_at "ev"
  rw [fr_int (-(G k).1), ← Int.zero_sub (G k).1] at p
  exact p
theorem O_corner_rows (T : Tx K mg) (O_most_row : OkD Pr w K mg base 4 "most_row" ["table", "target", "place", "end", "goal"] S_most_row) (O_least_row : OkD Pr w K mg base 4 "least_row" ["table", "target", "place", "end", "goal"] S_least_row) : OkD Pr w K mg base 5 "corner_rows" ["table", "target", "signs"] S_corner_rows := by
  refine ok_mk T.f_corner_rows sc_corner_rows (fun ds P ⟨a, b, c, d, f, g, h, e, _⟩ => by rw [e]; rfl) (fun f cdv A outer s H E hr => ⟨_, 
    (pss_one (ps_ret (pe_lc (own := [("place", 3), ("sign", 4)]) rfl sc_corner_rows.nd (kpi_enumT K T.z_enumerate (pa_cons (pv 2) pa_nil)) (blkOk_by (by kernel_rfl)) (by intro _ _ _ _ _; exact (kpg_tup K (n := 2) (pgs_cons (pg_nameA (i := 3) sc_corner_rows.nd) (pgs_cons (pg_nameA (i := 4) sc_corner_rows.nd) pgs_nil)))) (by intro _ _ _ _ _; exact pts_nil) (by intro _ _ _ _ _; exact (pe_ifExp (pt_cmpR op_gt (pv 4) pe_int (nomark _)) (pe_ok O_most_row (hr.mono (by decide)) (pa_cons (pv 0) (pa_cons (pv 1) (pa_cons (pv 3) (pa_cons pe_int (pa_cons pe_int pa_nil)))))) (pe_ok O_least_row (hr.mono (by decide)) (pa_cons (pv 0) (pa_cons (pv 1) (pa_cons (pv 3) (pa_cons pe_int (pa_cons pe_int pa_nil))))))))))),
    fun ds P ⟨t, w, hd, nm, B, G, s, e, ht, hw, p⟩ => ?_⟩) fun _ _ _ _ _ _ us hl => match us, hl with | [_, _, _], _ => rfl
  subst e
  walk_at "ev"
  rw [enum_seq]
  refine lcd_seq (fun k => .tup [.lst (rowD t fun j => (Wd B s k j : Rat)), fr (gd G s k : Rat)]) (by omega) rfl (fun k hk => ?_) p
  walk_at "ev"
  refine ite_dec (fun h => ?_) (fun h => ?_)
  · walk_at "ev"
    refine ⟨t, w, hd, nm, B, G, k, rfl, ht, hk, ?_, rfl⟩
    unfold Wd gd
    rw [if_pos h]
    simp only [if_pos (show s k > 0 from h)]
  · walk_at "ev"
    refine ⟨t, w, hd, nm, B, G, k, rfl, ht, hk, ?_, rfl⟩
    unfold Wd gd
    rw [if_neg h]
    simp only [if_neg (show ¬ s k > 0 from h)]
theorem O_cheapest_of (T : Tx K mg) (O_Table_rows : OkP Pr w K mg base 1 CTable "rows" ["self"] (spD K S_rows)) (O_solved : OkD Pr w K mg base 7 "solved" ["numbers", "bounds", "costs"] S_solved) : OkD Pr w K mg base 8 "cheapest_of" ["table", "rows", "prices"] S_cheapest_of := by
  refine ok_mk T.f_cheapest_of sc_cheapest_of (fun ds P ⟨a, b, c, d, f, g, h, e, _⟩ => by rw [e]; rfl) (fun f cdv A outer s H E hr => ⟨_, 
    (pss_cons (ps_setA (i := 3) sc_cheapest_of.nd (pe_callB (kcall_len K) rfl T.z_len PySem.boot_len (pa_cons (pe_okP T.c_Table O_Table_rows (hr.mono (by decide)) (pv 0)) pa_nil)))
      (pss_cons (ps_setA (i := 4) sc_cheapest_of.nd (pe_lst (kpa_star K (pe_lc (own := [("row", 6), ("bound", 7)]) rfl sc_cheapest_of.nd (kpi_list K (pv 1)) (blkOk_by (by kernel_rfl)) (by intro _ _ _ _ _; exact (kpg_tup K (n := 2) (pgs_cons (pg_nameA (i := 6) sc_cheapest_of.nd) (pgs_cons (pg_nameA (i := 7) sc_cheapest_of.nd) pgs_nil)))) (by intro _ _ _ _ _; exact pts_nil) (by intro _ _ _ _ _; exact (pv 6))) (pa_cons (pe_op op_rep (pe_lst (pa_cons (pe_globR T.g_ONE) pa_nil)) (pv 3)) (pa_cons (pe_op op_rep (pe_lst (pa_cons (pe_tup (pa_cons (pe_op op_sub pe_int pe_int) (pa_cons pe_int pa_nil))) pa_nil)) (pv 3)) pa_nil)))))
      (pss_cons (ps_setA (i := 5) sc_cheapest_of.nd (pe_lst (kpa_star K (pe_lc (own := [("row", 6), ("bound", 7)]) rfl sc_cheapest_of.nd (kpi_list K (pv 1)) (blkOk_by (by kernel_rfl)) (by intro _ _ _ _ _; exact (kpg_tup K (n := 2) (pgs_cons (pg_nameA (i := 6) sc_cheapest_of.nd) (pgs_cons (pg_nameA (i := 7) sc_cheapest_of.nd) pgs_nil)))) (by intro _ _ _ _ _; exact pts_nil) (by intro _ _ _ _ _; exact (pv 7))) (pa_cons (pe_globR T.g_ONE) (pa_cons (pe_tup (pa_cons (pe_op op_sub pe_int pe_int) (pa_cons pe_int pa_nil))) pa_nil)))))
      (pss_one (ps_ret (pe_ok O_solved (hr.mono (by decide)) (pa_cons (pv 4) (pa_cons (pv 5) (pa_cons (pe_lc (own := [("price", 8)]) rfl sc_cheapest_of.nd (kpi_tup K (pv 2)) (blkOk_by (by kernel_rfl)) (by intro _ _ _ _ _; exact pg_nameA (i := 8) sc_cheapest_of.nd) (by intro _ _ _ _ _; exact pts_nil) (by intro _ _ _ _ _; exact (pe_tup (pa_cons (pv 8) (pa_cons pe_int pa_nil))))) pa_nil))))))))),
    fun ds P ⟨t, w, hd, nm, B, W, g, e, S, p⟩ => ?_⟩) fun _ _ _ _ _ _ us hl => match us, hl with | [_, _, _], _ => rfl
  subst e
  have hm5 := S.m5
  have hn6 := S.n6
  walk_at "ev"
  have hl : (rowsT t w nm B).length = t := by unfold rowsT; rw [seqD_len]
  rw [hl]
  have h1 : (List.replicate ((t : Nat) : Int).toNat [fr 1]).flatten = rowD t fun _ => ((1 : Int) : Rat) := by
    rw [rep_seq, show ((t : Nat) : Int).toNat = t by omega]
    rfl
  have h2 : (List.replicate ((t : Nat) : Int).toNat [D.tup [D.v (V.int (0 - 1)), D.v (V.int 1)]]).flatten = rowD t fun _ => ((-1 : Int) : Rat) := by
    rw [rep_seq, show ((t : Nat) : Int).toNat = t by omega]
    refine seqD_congr fun _ _ => ?_
    rw [fr_int]
    rfl
  have hnum : (seqD w fun k => .lst (rowD t fun j => (W k j : Rat))) ++ [.lst (rowD t fun _ => ((1 : Int) : Rat)), .lst (rowD t fun _ => ((-1 : Int) : Rat))] = numD (w + 2) t (mA w W) := by
    refine seqD_ext (by rw [List.length_append, seqD_len]; rfl) fun i hi => ?_
    by_cases h : i < w
    · rw [List.getElem?_append_left (by rw [seqD_len]; exact h), seqD_get h]
      unfold mA
      simp only [if_pos h]
    · rw [List.getElem?_append_right (by rw [seqD_len]; omega), seqD_len]
      unfold mA
      by_cases h' : i = w
      · subst h'
        rw [Nat.sub_self]
        simp only [if_neg h, if_true]
        rfl
      · rw [show i - w = 1 by omega]
        simp only [if_neg h, if_neg h']
        rfl
  have hbnd : (seqD w fun k => fr (g k : Rat)) ++ [fr 1, D.tup [D.v (V.int (0 - 1)), D.v (V.int 1)]] = bndD (w + 2) (mb w g) := by
    refine seqD_ext (by rw [List.length_append, seqD_len]; rfl) fun i hi => ?_
    by_cases h : i < w
    · rw [List.getElem?_append_left (by rw [seqD_len]; exact h), seqD_get h]
      unfold mb
      simp only [if_pos h]
    · rw [List.getElem?_append_right (by rw [seqD_len]; omega), seqD_len]
      unfold mb
      by_cases h' : i = w
      · subst h'
        rw [Nat.sub_self]
        simp only [if_neg h, if_true]
        rfl
      · rw [show i - w = 1 by omega]
        simp only [if_neg h, if_neg h']
        show some _ = some (fr ((-1 : Int) : Rat))
        rw [fr_int]
        rfl
  unfold wantsD
  refine lcd_seq (fun k => .lst (rowD t fun j => (W k j : Rat))) (by omega) rfl (fun k hk => ?_) ?_
  · walk_at "ev"
    rfl
  walk_at "ev"
  refine ⟨⟨by omega, by omega⟩, by decide, ?_⟩
  walk_at "ev"
  refine ⟨⟨by omega, by omega⟩, by decide, ?_⟩
  walk_at "ev"
  rw [h1, h2, hnum]
  refine ⟨by unfold numD; rw [seqD_len]; omega, ?_⟩
  walk_at "ev"
  refine lcd_seq (fun k => fr (g k : Rat)) (by omega) rfl (fun k hk => ?_) ?_
  · walk_at "ev"
    rfl
  walk_at "ev"
  rw [hbnd]
  refine ⟨by unfold bndD rowD; rw [seqD_len]; omega, ?_⟩
  walk_at "ev"
  refine lcd_seq (fun _ => fr 0) (by omega) rfl (fun k hk => ?_) ?_
  · walk_at "ev"
    rfl
  walk_at "ev"
  refine ⟨S, fun h => ?_, fun h => ?_⟩
  · unfold outcome at p
    rw [if_neg h] at p
    exact p
  · unfold outcome at p
    rw [if_pos h] at p
    exact p
theorem O_corner_mix (T : Tx K mg) (O_check_question : OkD Pr w K mg base 5 "check_question" ["table", "target"] S_check_question) (O_check_signs : OkD Pr w K mg base 3 "check_signs" ["table", "value"] S_check_signs) (O_mix_in : OkD Pr w K mg base 1 "mix_in" ["found"] S_mix_in) (O_cheapest_of : OkD Pr w K mg base 8 "cheapest_of" ["table", "rows", "prices"] S_cheapest_of) (O_corner_rows : OkD Pr w K mg base 5 "corner_rows" ["table", "target", "signs"] S_corner_rows) (O_no_prices : OkD Pr w K mg base 3 "no_prices" ["table"] S_no_prices) : OkD Pr w K mg base 9 "corner_mix" ["table", "target", "signs"] S_corner_mix ∧ OkK Pr w K mg base 9 "corner_mix" ["table", "target", "signs"] ["signs", "target", "table"] (spD K S_corner_mix) := by
  refine both3 T.f_corner_mix sc_corner_mix (fun ds P ⟨a, b, c, d, f, g, h, e, _⟩ => by rw [e]; rfl) (fun f cdv A outer s H E hr => ⟨_, 
    (pss_cons (ps_expr (pe_ok O_check_question (hr.mono (by decide)) (pa_cons (pv 0) (pa_cons (pv 1) pa_nil))))
      (pss_cons (ps_expr (pe_ok O_check_signs (hr.mono (by decide)) (pa_cons (pv 0) (pa_cons (pv 2) pa_nil))))
      (pss_one (ps_ret (pe_ok O_mix_in (hr.mono (by decide)) (pa_cons (pe_ok O_cheapest_of (hr.mono (by decide)) (pa_cons (pv 0) (pa_cons (pe_ok O_corner_rows (hr.mono (by decide)) (pa_cons (pv 0) (pa_cons (pv 1) (pa_cons (pv 2) pa_nil)))) (pa_cons (pe_ok O_no_prices (hr.mono (by decide)) (pa_cons (pv 0) pa_nil)) pa_nil)))) pa_nil)))))),
    fun ds P ⟨t, w, hd, nm, B, G, r, e, hT, hG, hr, p⟩ => ?_⟩) (fun _ _ _ _ _ _ us hl => match us, hl with | [_, _, _], _ => rfl) (fun _ _ _ _ _ _ ws hl => ?_) (by decide)
  · subst e
    have ht := hT.t8
    have hw := hT.w4
    have ht1 := hT.t1
    have big : ∀ k, k < w → StOk 10000 (G k) := fun k hk => by have h := hG k hk; exact ⟨by have := h.1; omega, h.2.1, by have := h.2.2; omega⟩
    walk_at "ev"
    refine ⟨t, w, hd, nm, B, G, rfl, by omega, big, ?_⟩
    walk_at "ev"
    refine ⟨t, w, hd, nm, B, r, rfl, by omega, hr, ?_⟩
    walk_at "ev"
    refine ⟨t, w, hd, nm, B, G, sv r, by rw [sg_seq (marks_mem hr).1], by omega, by omega, ?_⟩
    walk_at "ev"
    refine ⟨by omega, by omega,
        ?_⟩
    walk_at "ev"
    refine ⟨t, w, hd, nm, B, Wd B (sv r), gd G (sv r), rfl, corner_small hT hG _, ?_⟩
    walk_at "ev"
    exact p
  · match ws, hl with
    | [_, _, _], _ => rfl
    | [], hl => exact absurd hl (by decide)
    | [_], hl => exact absurd hl (by show ¬ 0 = 3; decide)
    | [_, _], hl => exact absurd hl (by show ¬ 2 = 3; decide)
    | _ :: _ :: _ :: _ :: _, hl => exact absurd hl (by show ¬ 0 = 3; decide)
theorem O_all_corners (T : Tx K mg) (O_cheapest_of : OkD Pr w K mg base 8 "cheapest_of" ["table", "rows", "prices"] S_cheapest_of) (O_signs_of : OkD Pr w K mg base 1 "signs_of" ["many"] S_signs_of) (O_corner_rows : OkD Pr w K mg base 5 "corner_rows" ["table", "target", "signs"] S_corner_rows) (O_Table_columns : OkP Pr w K mg base 1 CTable "columns" ["self"] (spD K S_columns)) : OkD Pr w K mg base 9 "all_corners" ["table", "target", "prices"] S_all_corners := by
  refine ok_mk T.f_all_corners sc_all_corners (fun ds P ⟨a, b, c, d, f, g, e, _⟩ => by rw [e]; rfl) (fun f cdv A outer s H E hr => ⟨_, 
    (pss_one (ps_ret (pe_lc (own := [("signs", 3)]) rfl sc_all_corners.nd (kpi_list K (pe_ok O_signs_of (hr.mono (by decide)) (pa_cons (pe_callB (kcall_len K) rfl T.z_len PySem.boot_len (pa_cons (pe_okP T.c_Table O_Table_columns (hr.mono (by decide)) (pv 0)) pa_nil)) pa_nil))) (blkOk_by (by kernel_rfl)) (by intro _ _ _ _ _; exact pg_nameA (i := 3) sc_all_corners.nd) (by intro _ _ _ _ _; exact pts_nil) (by intro _ _ _ _ _; exact (pe_tup (pa_cons (pv 3) (pa_cons (pe_ok O_cheapest_of (hr.mono (by decide)) (pa_cons (pv 0) (pa_cons (pe_ok O_corner_rows (hr.mono (by decide)) (pa_cons (pv 0) (pa_cons (pv 1) (pa_cons (pv 3) pa_nil)))) (pa_cons (pv 2) pa_nil)))) pa_nil))))))),
    fun ds P ⟨t, w, hd, nm, B, G, e, hT, hG, p⟩ => ?_⟩) fun _ _ _ _ _ _ us hl => match us, hl with | [_, _, _], _ => rfl
  subst e
  have ht := hT.t8
  have hw := hT.w4
  walk_at "ev"
  have hl : (headsD w hd).length = w := by unfold headsD; rw [seqD_len]
  rw [hl]
  walk_at "ev"
  refine ⟨by omega, ?_⟩
  walk_at "ev"
  refine lcd_map (fun r => .tup [sgD r, outcome (w + 2) t (cA w B r) (cb w G r)]) (by rw [marks_len]; exact Nat.le_trans (Nat.pow_le_pow_right (by decide) hw) (by decide)) rfl (fun r hr => ?_) p
  walk_at "ev"
  refine ⟨t, w, hd, nm, B, G, sv r, by rw [sg_seq (marks_mem hr).1], by omega, by omega, ?_⟩
  walk_at "ev"
  refine ⟨t, w, hd, nm, B, Wd B (sv r), gd G (sv r), rfl, corner_small hT hG _, ?_⟩
  walk_at "ev"
  rfl
theorem O_barring_of (T : Tx K mg) (O_all_corners : OkD Pr w K mg base 9 "all_corners" ["table", "target", "prices"] S_all_corners) (O_no_prices : OkD Pr w K mg base 3 "no_prices" ["table"] S_no_prices) : OkD Pr w K mg base 10 "barring_of" ["table", "target"] S_barring_of := by
  refine ok_mk T.f_barring_of sc_barring_of (fun ds P ⟨a, b, c, d, f, g, e, _⟩ => by rw [e]; rfl) (fun f cdv A outer s H E hr => ⟨_, 
    (pss_cons (ps_for PassesOwn.never rfl (kpi_list K (pe_ok O_all_corners (hr.mono (by decide)) (pa_cons (pv 0) (pa_cons (pv 1) (pa_cons (pe_ok O_no_prices (hr.mono (by decide)) (pa_cons (pv 0) pa_nil)) pa_nil))))) (kpg_tup K (n := 2) (pgs_cons (pg_nameA (i := 2) sc_barring_of.nd) (pgs_cons (pg_nameA (i := 3) sc_barring_of.nd) pgs_nil))) (pss_one (ps_if (pt_cmpR op_eq (kpe_fld K (pv 3)) pe_str (nomark _)) (pss_one (ps_ret (pe_tup (pa_cons (pv 2) (pa_cons (pe_slice (ksl_tupA K) (kpe_fld K (pv 3)) po_none (po_some (pe_callB (kcall_len K) rfl T.z_len PySem.boot_len (pa_cons (pv 2) pa_nil)))) pa_nil))))) pss_nil)))
      (pss_one (ps_ret pe_non))),
    fun ds P ⟨t, w, hd, nm, B, G, e, hT, hG, p⟩ => ?_⟩) fun _ _ _ _ _ _ us hl => match us, hl with | [_, _], _ => rfl
  subst e
  have ht := hT.t8
  have ht1 := hT.t1
  have hw := hT.w4
  walk_at "ev"
  refine ⟨by omega, by omega,
      ?_⟩
  walk_at "ev"
  refine ⟨t, w, hd, nm, B, G, rfl, hT, hG, ?_⟩
  walk_at "ev"
  refine for_map [2, 3] (fun i ρ => Stop (∃ d2 d3, ρ = [.dat (tabD t w hd nm B), .dat (.tup (strD w G)), d2, d3] ∧ ∀ q ∈ (marks w).take i, bad t w B G q = false)) (stop ⟨.any, .any, rfl, fun q hq => absurd hq List.not_mem_nil⟩) (fun i r ρ hr hp => ?_) (fun ρ hp => ?_)
  · obtain ⟨d2, d3, e, hb⟩ := hp.go
    subst e
    walk_at "ev"
    have hm := List.mem_of_getElem? hr
    unfold outcome
    by_cases h : p1 (w + 2) t (cA w B r) (cb w G r) 0 = 0
    · rw [if_pos h]
      unfold outD
      walk_at "ev"
      refine ite_dec (fun z => absurd z (by decide +kernel)) (fun _ => ?_)
      walk_at "ev"
      refine stop ⟨_, _, rfl, fun q hq => ?_⟩
      rw [List.take_add_one, hr] at hq
      rcases List.mem_append.mp hq with z | z
      · exact hb q z
      · obtain rfl : q = r := by simpa using z
        unfold bad
        rw [decide_eq_true h]
        rfl
    · rw [if_neg h]
      unfold outD
      walk_at "ev"
      refine ite_dec (fun _ => ?_) (fun z => absurd rfl z)
      walk_at "ev"
      have hc : Dl.cutD (rowD (w + 2) (wts (w + 2) t (cA w B r) (cb w G r))) none (some (((r.map D.int).length : Nat) : Int)) = rowD w (wts (w + 2) t (cA w B r) (cb w G r)) := by
        rw [List.length_map, (marks_mem hm).1]
        exact cut_pre (by omega)
      rw [hc]
      have hbad : bad t w B G r = true := by
        unfold bad
        rw [decide_eq_false h]
        rfl
      unfold barD at p
      rw [find_at hr hbad hb] at p
      exact p
  · obtain ⟨d2, d3, e, hb⟩ := hp.go
    subst e
    rw [List.take_length] at hb
    walk_at "ev"
    unfold barD at p
    rw [List.find?_eq_none.mpr fun q hq => by rw [hb q hq]; exact Bool.false_ne_true] at p
    exact p
theorem O_is_served (T : Tx K mg) (O_check_question : OkD Pr w K mg base 5 "check_question" ["table", "target"] S_check_question) (O_barring_of : OkD Pr w K mg base 10 "barring_of" ["table", "target"] S_barring_of) : OkD Pr w K mg base 11 "is_served" ["table", "target"] S_is_served := by
  refine ok_mk T.f_is_served sc_is_served (fun ds P ⟨a, b, c, d, f, g, e, _⟩ => by rw [e]; rfl) (fun f cdv A outer s H E hr => ⟨_, 
    (pss_cons (ps_expr (pe_ok O_check_question (hr.mono (by decide)) (pa_cons (pv 0) (pa_cons (pv 1) pa_nil))))
      (pss_one (ps_ret (pe_cmpR op_isN (pe_ok O_barring_of (hr.mono (by decide)) (pa_cons (pv 0) (pa_cons (pv 1) pa_nil))) pe_non (nomark _))))),
    fun ds P ⟨t, w, hd, nm, B, G, e, hT, hG, p⟩ => ?_⟩) fun _ _ _ _ _ _ us hl => match us, hl with | [_, _], _ => rfl
  subst e
  have hw := hT.w4
  have big : ∀ k, k < w → StOk 10000 (G k) := fun k hk => by have h := hG k hk; exact ⟨by have := h.1; omega, h.2.1, by have := h.2.2; omega⟩
  walk_at "ev"
  refine ⟨t, w, hd, nm, B, G, rfl, by omega, big, ?_⟩
  walk_at "ev"
  refine ⟨t, w, hd, nm, B, G, rfl, hT, hG, ?_⟩
  walk_at "ev"
  exact p
theorem O_barring (T : Tx K mg) (O_check_question : OkD Pr w K mg base 5 "check_question" ["table", "target"] S_check_question) (O_barring_of : OkD Pr w K mg base 10 "barring_of" ["table", "target"] S_barring_of) : OkD Pr w K mg base 11 "barring" ["table", "target"] S_barring_of ∧ OkK Pr w K mg base 11 "barring" ["table", "target"] ["target", "table"] (spD K S_barring_of) := by
  refine both3 T.f_barring sc_barring (fun ds P ⟨a, b, c, d, f, g, e, _⟩ => by rw [e]; rfl) (fun f cdv A outer s H E hr => ⟨_, 
    (pss_cons (ps_expr (pe_ok O_check_question (hr.mono (by decide)) (pa_cons (pv 0) (pa_cons (pv 1) pa_nil))))
      (pss_one (ps_ret (pe_ok O_barring_of (hr.mono (by decide)) (pa_cons (pv 0) (pa_cons (pv 1) pa_nil)))))),
    fun ds P ⟨t, w, hd, nm, B, G, e, hT, hG, p⟩ => ?_⟩) (fun _ _ _ _ _ _ us hl => match us, hl with | [_, _], _ => rfl) (fun _ _ _ _ _ _ ws hl => ?_) (by decide)
  · subst e
    have hw := hT.w4
    have big : ∀ k, k < w → StOk 10000 (G k) := fun k hk => by have h := hG k hk; exact ⟨by have := h.1; omega, h.2.1, by have := h.2.2; omega⟩
    walk_at "ev"
    refine ⟨t, w, hd, nm, B, G, rfl, by omega, big, ?_⟩
    walk_at "ev"
    refine ⟨t, w, hd, nm, B, G, rfl, hT, hG, ?_⟩
    exact p
  · match ws, hl with
    | [_, _], _ => rfl
    | [], hl => exact absurd hl (by decide)
    | [_], hl => exact absurd hl (by show ¬ 0 = 2; decide)
    | [_, _, _], hl => exact absurd hl (by show ¬ 3 = 2; decide)
    | _ :: _ :: _ :: _ :: _, hl => exact absurd hl (by show ¬ 0 = 2; decide)
end
end Cs
set_option Elab.async false
set_option linter.all false
set_option maxRecDepth 100000
set_option maxHeartbeats 4200000
/-! Drawing numbers. -/
namespace Cs
open PySem PySem.Spec PyProof.Rows L2 StX Dl Mx
theorem ca_intI {K : PySem.W.Frag} : CaD K (fun xs H Q => (∃ i, xs = [.int i] ∧ Q (.int i) H) ∨ ∃ b, xs = [.bl b] ∧ Q (.int (if b then 1 else 0)) H) fun ds P => ∃ i, ds = [.int i] ∧ P (.int i) := fun ρ σ Hk H2 ds xs A r P Q h q => ca_int ρ σ Hk H2 ds xs A r P Q (.inl h) q
theorem ca_intB {K : PySem.W.Frag} : CaD K (fun xs H Q => (∃ i, xs = [.int i] ∧ Q (.int i) H) ∨ ∃ b, xs = [.bl b] ∧ Q (.int (if b then 1 else 0)) H) fun ds P => ∃ b, ds = [.bl b] ∧ P (.int (if b then 1 else 0)) := fun ρ σ Hk H2 ds xs A r P Q h q => ca_int ρ σ Hk H2 ds xs A r P Q (.inr h) q
local macro_rules | `(tactic| walk_at "ev1") => `(tactic| first
  | with_reducible refine w_seq ?_
  | with_reducible refine ite_true' ?_
  | with_reducible refine ite_false' ?_
  | with_reducible refine ite_nt ?_
  | with_reducible refine ite_nf ?_
  | with_reducible refine w_next ?_
  | with_reducible refine w_ret ?_
  | with_reducible refine w_set ?_
  | with_reducible refine w_par ?_
  | with_reducible refine w_par3 ?_
  | with_reducible refine w_drop ?_
  | with_reducible refine w_ifS ?_
  | refine w_var rfl ?_
  | with_reducible refine w_cd (zeroR (by assumption)) ?_
  | with_reducible refine w_cd (oneR (by assumption)) ?_
  | with_reducible refine w_c ?_
  | with_reducible refine w_yes ?_
  | with_reducible refine w_cons ?_
  | with_reducible refine w_star ?_
  | with_reducible refine w_nil ?_
  | with_reducible refine w_tup ?_
  | with_reducible refine w_lst ?_
  | with_reducible refine w_neg ?_
  | with_reducible refine w_if ?_
  | with_reducible refine w_test ?_
  | with_reducible refine w_B ?_
  | with_reducible refine w_not ?_
  | with_reducible refine w_notV ?_
  | with_reducible refine w_and ?_
  | with_reducible refine w_or ?_
  | with_reducible refine w_andV ?_
  | with_reducible refine w_orV ?_
  | with_reducible refine w_op od_I0 ?_
  | with_reducible refine w_op od_I ?_
  | with_reducible refine w_op od_ix ?_
  | with_reducible refine w_op od_ixL ?_
  | with_reducible refine w_op od_ixT ?_
  | with_reducible refine w_op od_eq ?_
  | with_reducible refine w_op od_ne ?_
  | with_reducible refine w_op od_isN ?_
  | with_reducible refine w_op od_notN ?_
  | with_reducible refine w_op od_cat ?_
  | with_reducible refine w_op od_catA ?_
  | with_reducible refine w_op od_rep ?_
  | with_reducible refine w_op od_repN ?_
  | with_reducible refine w_op od_eqD ?_
  | with_reducible refine w_op od_neD ?_
  | with_reducible refine w_op od_in ?_
  | with_reducible refine w_op od_notInD ?_
  | with_reducible refine w_slL ?_
  | with_reducible refine w_slT ?_
  | with_reducible refine w_noPart ?_
  | with_reducible refine w_some ?_
  | with_reducible refine w_call ?_
  | with_reducible refine w_cb ca_len ?_
  | with_reducible refine w_cb ca_len_str ?_
  | with_reducible refine w_cb ca_list ?_
  | with_reducible refine w_cb ca_tuple ?_
  | with_reducible refine w_cb ca_abs ?_
  | with_reducible refine w_cb ca_int ?_
  | with_reducible refine w_cb ca_all ?_
  | with_reducible refine w_cb ca_repr ?_
  | with_reducible refine w_lc ?_
  | with_reducible refine w_lc2 ?_
  | with_reducible refine w_for ?_
  | with_reducible refine w_meth ?_
  | with_reducible refine w_prop ?_
  | with_reducible refine w_mk ?_
  | with_reducible refine w_dc ?_
  | with_reducible refine w_dget2 ?_
  | with_reducible refine w_lstRg ?_
  | with_reducible refine w_cb ca_isi ?_
  | with_reducible refine w_cb ca_isC ?_
  | with_reducible refine w_cb ca_divmod ?_
  | with_reducible refine w_op od_inSign ?_
  | with_reducible refine i_enumA ?_
  | with_reducible refine i_zipTL ?_
  | with_reducible refine i_enumZip ?_
  | with_reducible refine i_zipTT ?_
  | with_reducible refine g_tup ?_
  | refine ⟨_, rfl, rfl, ?_⟩
  | with_reducible refine g_cons ?_
  | with_reducible refine g_name (by decide) ?_
  | with_reducible refine g_nil ?_
  | with_reducible refine w_asg (js := List.range 40) ?_
  | refine ⟨okEq_fr _, okEq_fr _, ?_⟩
  | with_reducible refine i_list ?_
  | with_reducible refine i_tup ?_
  | with_reducible refine i_rng1 ?_
  | with_reducible refine i_rng2 ?_
  | with_reducible refine i_enum ?_
  | with_reducible refine i_zip ?_
  | with_reducible refine i_str ?_
  | refine ⟨Nat.le_of_ble_eq_true rfl, ?_⟩
  | refine ⟨_, rfl, ?_⟩
  | refine ⟨_, _, rfl, ?_⟩
  | refine ⟨_, _, _, rfl, ?_⟩
  | refine ⟨_, _, _, _, rfl, rfl, rfl, ?_⟩
  | refine ⟨_, _, rfl, by decide, ?_⟩
  | refine ⟨_, _, rfl, rfl, ?_⟩
  | refine ⟨_, _, _, rfl, rfl, rfl, ?_⟩
  | refine ⟨_, _, _, rfl, rfl, ?_⟩
  | refine ⟨_, _, _, rfl, rfl, seqD_atI (by first | assumption | omega), ?_⟩
  | refine ⟨_, _, _, _, rfl, ?_⟩
  | refine ⟨_, _, _, _, _, rfl, ?_⟩
  | refine ⟨rfl, ?_⟩
  | refine ⟨by decide +kernel, ?_⟩)
local macro_rules | `(tactic| walk_at "ev") => `(tactic| repeat walk_at "ev1")
local macro_rules | `(tactic| walk_at "wk") => `(tactic| repeat (first | exact True.intro | refine ⟨.inr rfl, ?_⟩ | refine ⟨.inl rfl, ?_⟩))
local macro_rules | `(tactic| walk_at "ev1") => `(tactic| first
  | with_reducible refine w_cb ca_intI ?_
  | with_reducible refine m_seq ?_
  | with_reducible refine m_ret ?_
  | with_reducible refine m_ifS ?_
  | with_reducible refine m_next ?_
  | with_reducible refine m_set (by decide) ?_
  | with_reducible refine m_par (by decide) (by decide) ?_
  | with_reducible refine w_ixOwn (by rfl) ?_)
abbrev OkDM (Pr : Program) (w : World) (K : PySem.W.Frag) (mg : Str → Option Value) (base : Heap) (k c : Nat) (x : Str) (ps : List Str) (S : PS1) : Prop := Ok Pr w K mg base k x ps (spM K c S)
def S_sip : PS1 := fun ds P => ∃ top : Nat, ds = [.int (top : Nat)] ∧ 1 ≤ top ∧ top ≤ 1000 ∧ ∀ i : Nat, i < top → P (.int (i : Nat))
def S_of : PS1 := fun ds P => ∃ (d : D) (es : List D), ds = [d] ∧ items d = some es ∧ 1 ≤ es.length ∧ es.length ≤ 1000 ∧ ∀ (i : Nat) e, es[i]? = some e → P e
/-- stretches as they are drawn -/
def DrOk (x : Int × Int) : Prop := -2 ≤ x.1 ∧ x.1 ≤ x.2 ∧ x.2 ≤ 11
def bodyD (t w : Nat) (B : Bd) : D := .lst (seqD t fun i => .lst (strD w (B i)))
def S_stretch : PS1 := fun ds P => ds = [] ∧ ∀ x : Int × Int, DrOk x → P (stD x)
def S_body : PS1 := fun ds P => ∃ t w : Nat, ds = [.int (t : Nat), .int (w : Nat)] ∧ t ≤ 6 ∧ w ≤ 3 ∧ ∀ B : Bd, (∀ i k, i < t → k < w → DrOk (B i k)) → P (bodyD t w B)
def S_heads : PS1 := fun ds P => ∃ w : Nat, ds = [.int (w : Nat)] ∧ w ≤ 3 ∧ ∀ hd : Nat → Str, namesOk w hd → P (.tup (headsD w hd))
def S_aim : PS1 := fun ds P => ∃ (t w : Nat) (B : Bd), ds = [bodyD t w B] ∧ 1 ≤ t ∧ t ≤ 6 ∧ w ≤ 3 ∧ (∀ i k, i < t → k < w → DrOk (B i k)) ∧ ∀ G : Tg, AimOk w G → P (.tup (strD w G))
theorem atI_nat {es : List D} {i : Nat} {e : D} (h : es[i]? = some e) : atI es ((i : Nat) : Int) = some e := by
  have hi := (List.getElem?_eq_some_iff.mp h).1
  unfold atI
  have e : ixN es.length ((i : Nat) : Int) = some i := by
    unfold ixN
    rw [if_pos (by omega), if_pos (by
        omega)]
    rfl
  rw [e]
  exact h
def updN {α : Type} (A : Nat → α) (i : Nat) (a : α) : Nat → α := fun j => if j = i then a else A j
theorem updN_same {α : Type} {A : Nat → α} {i : Nat} {a : α} : updN A i a i = a := if_pos rfl
theorem updN_ne {α : Type} {A : Nat → α} {i j : Nat} {a : α} (h : j ≠ i) : updN A i a j = A j := if_neg h
theorem seqD_push {α : Type} (g : α → D) (A : Nat → α) (i : Nat) (a : α) : (seqD i fun j => g (A j)) ++ [g a] = seqD (i + 1) fun j => g (updN A i a j) := by
  rw [← seqD_snoc]
  congr 1
  · exact seqD_congr fun j hj => by rw [updN_ne (by omega)]
  · rw [updN_same]
/-- a comprehension whose turns change what is known -/
theorem lcd_acc {K : PySem.W.Frag} {P : PD} {ρ1 : Dl.Env} {g' : TG} {tt : TT} {te : TE} {vs : List Nat} {n : Nat} {f : Nat → D} {α : Type} (g : α → D) (A0 : Nat → α) (Pv : Nat → (Nat → α) → Dl.Env → Prop) (hn : n ≤ 100000) (hw : wipeS ρ1 vs = ρ1) (h0 : Pv 0 A0 ρ1)
    (hs : ∀ i A ρ2, i < n → Pv i A ρ2 → wG K vs g' (f i) ρ2 fun ρ3 => wT K tt ρ3 fun b ρ4 => b = true ∧ wE K te ρ4 fun e ρ5 => ∃ a, e = g a ∧ Pv (i + 1) (updN A i a) (wipeS ρ5 vs)) (hd : ∀ A ρ2, Pv n A ρ2 → P (.lst (seqD n fun i => g (A i))) ρ2) : LcD K g' tt te vs P (seqD n f) ρ1 := by
  refine ⟨fun i acc ρ => ∃ A, acc = (seqD i fun i => g (A i)) ∧ Pv i A ρ, by rw [seqD_len]; exact hn, ⟨A0, rfl, h0⟩, hw, fun i d acc ρ2 hd' ⟨A, ha, hp⟩ _ => ?_, fun acc ρ2 ⟨A, ha, hp⟩ => ?_⟩
  · obtain ⟨hi, rfl⟩ := seqD_at hd'
    subst ha
    intro σ Hk H2 y At' r Q q
    refine hs i A ρ2 hi hp σ Hk H2 y At' r Q fun ρ3 σ3 Hk3 H3 h3 => q ρ3 σ3 Hk3 H3 (h3.mono fun b ρ4 ⟨e1, h4⟩ => ?_)
    subst e1
    refine h4.mono fun e ρ5 ⟨a, ea, h5⟩ => ⟨wipeS_wipeS _ _, updN A i a, ?_, h5⟩
    rw [ea]
    exact seqD_push g A i a
  · subst ha
    rw [seqD_len] at hp ⊢
    exact hd A ρ2 hp
section
variable {Pr : Program} {w : World} {K : PySem.W.Frag} {mg : Str → Option Value} {base : Heap}
theorem okm_mk {x : Str} {st : Stmt} {N ps : List Str} {k c : Nat} {S : PS1} (h : ∃ f fd, Fun K x x st f fd ∧ mg x = some (.ref f)) (sc : FnScope N ps (defScope st)) (hlen : ∀ ds P, S ds P → ds.length + 1 = ps.length)
    (body : ∀ (f : Addr) (cdv : Value) (A : Around) (outer : List PySem.Env) (s : Shared) (H : Hp) (E : XK), Room k (A.deeper (envOfC x (defScope st) s.heap.objs.size f cdv)) →
      ∃ t, PSs (cxOf CX0 Pr w K mg base N x (defScope st) f cdv A outer s H E).nox (defBody st) t ∧ ∀ x kk ds P, MugOk x kk → kk + c ≤ mugCap → S ds P → wS0 K t (envM N x ds) ⟨MugEnd (kk + c) P .non, MugEnd (kk + c) P, fun _ => False, fun _ => False⟩)
    (hb : ∀ (kV doc pm : Value) (an : Option Addr) (cdv ct : Value) (us : List Value), us.length = ps.length → bindArgs (PySem.W.fnOf x x (defArgs st) (defBody st) (defScope st) .none kV doc pm an cdv ct) ⟨us, []⟩ = pure (ps.zip us)) : OkDM Pr w K mg base (k + 1) c x ps S := by
  obtain ⟨f, fd, F, hm⟩ := h
  exact ⟨f, fd, okDM F sc hlen (fun cdv A outer s H E hr => body f cdv A outer s H E hr), F.binds hb, hm, F.kp⟩
theorem sc_law_sip : FnScope ["_law_mug_here", "_law_top", "_law_old", "_law_digit"] ["_law_mug_here", "_law_top"] (defScope s_law_sip) := ⟨rfl, rfl, rfl, by decide +kernel, rfl, by decide +kernel, by decide +kernel⟩
theorem sc_law_of : FnScope ["_law_mug_here", "_law_things"] ["_law_mug_here", "_law_things"] (defScope s_law_of) := ⟨rfl, rfl, rfl, by decide +kernel, rfl, by decide +kernel, by decide +kernel⟩
theorem sc_law_stretch : FnScope ["_law_mug_here", "_law_least"] ["_law_mug_here"] (defScope s_law_stretch) := ⟨rfl, rfl, rfl, by decide +kernel, rfl, by decide +kernel, by decide +kernel⟩
theorem sc_law_body : FnScope ["_law_mug_here", "_law_tall", "_law_wide", "_law_spot", "_law_lap"] ["_law_mug_here", "_law_tall", "_law_wide"] (defScope s_law_body) := ⟨rfl, rfl, rfl, by decide +kernel, rfl, by decide +kernel, by decide +kernel⟩
theorem sc_law_heads : FnScope ["_law_mug_here", "_law_wide", "_law_some", "_law_lap"] ["_law_mug_here", "_law_wide"] (defScope s_law_heads) := ⟨rfl, rfl, rfl, by decide +kernel, rfl, by decide +kernel, by decide +kernel⟩
theorem sc_law_aim : FnScope ["_law_mug_here", "_law_body_here", "_law_one", "_law_two", "_law_found", "_law_k", "_law_near", "_law_far", "_law_middle"] ["_law_mug_here", "_law_body_here"] (defScope s_law_aim) := ⟨rfl, rfl, rfl, by decide +kernel, rfl, by decide +kernel, by decide +kernel⟩
theorem O_law_sip (T : Tx K mg) : OkDM Pr w K mg base 1 1 "_law_sip" ["_law_mug_here", "_law_top"] S_sip := by
  refine okm_mk T.f_law_sip sc_law_sip (fun ds P ⟨a, e, _⟩ => by rw [e]; rfl) (fun f cdv A outer s H E hr => ⟨_, 
    (pss_cons (ps_asg (pe_op op_add (pe_ix (kix_list K) (pv 0) pe_int (fun _ _ => rfl)) pe_int) (pg_sub (pv 0) pe_int set_list))
      (pss_cons (ps_setA (i := 2) sc_law_sip.nd (pe_callTy call_int1 rfl T.z_int (by decide +kernel) (pa_cons (pe_ix (kix_list K) (pv 0) pe_int (fun _ _ => rfl)) pa_nil)))
      (pss_cons (ps_asg (pe_op op_mod (pe_callTy call_int1 rfl T.z_int (by decide +kernel) (pa_cons (pe_op op_add (pe_op op_add (pe_op op_mul (pv 2) (pe_op op_add (pe_op op_mod (pe_callTy call_int1 rfl T.z_int (by decide +kernel) (pa_cons (pv 2) pa_nil)) pe_int) pe_int)) (pe_op op_mul pe_int (pe_ix (kix_list K) (pv 0) pe_int (fun _ _ => rfl)))) pe_int) pa_nil)) pe_int) (pg_sub (pv 0) pe_int set_list))
      (pss_cons (ps_if (pt_cmpR op_gt (pe_ix (kix_list K) (pv 0) pe_int (fun _ _ => rfl)) pe_int (nomark _)) (pss_cons (ps_asg (pe_callB call_divmod rfl T.z_divmod (by decide +kernel) (pa_cons (pe_ix (kix_list K) (pv 0) pe_int (fun _ _ => rfl)) (pa_cons (pv 1) pa_nil))) (kpg_tup K (n := 2) (pgs_cons (pg_sub (pv 0) pe_int set_list) (pgs_cons (pg_nameA (i := 3) sc_law_sip.nd) pgs_nil))))
      (pss_one (ps_ret (pv 3)))) pss_nil)
      (pss_one (ps_ret (pe_op op_mod (pe_callTy call_int1 rfl T.z_int (by decide +kernel) (pa_cons (pe_op op_fdiv (pe_ix (kix_list K) (pv 0) pe_int (fun _ _ => rfl)) pe_int) pa_nil)) (pv 1)))))))),
    fun x kk ds P ok cap ⟨top, e, h1, h2, p⟩ => ?_⟩) fun _ _ _ _ _ _ us hl => match us, hl with | [_, _], _ => rfl
  subst e
  obtain ⟨a, b, k⟩ := x
  obtain ⟨hb, hk⟩ := ok
  have hb : b < 2147482819 := hb
  have hk : k ≤ kk := hk
  unfold mugCap at cap
  refine wS0_env [.own [.int (a : Nat), .int (b : Nat), .int (k : Nat)], .dat (.int (top : Nat)), .any, .any] (by walk_at "wk") ?_
  refine m_seq (m_asg (js := []) (by decide) (w_op od_I0 (w_ixOwn rfl (w_c ⟨_, 2, _, rfl, rfl, rfl, w_c ⟨_, _, rfl, rfl, g_subOwn (w_c ⟨_, 2, 2, rfl, rfl, rfl, ?_⟩) rfl⟩⟩))))
  refine m_seq (m_set (by decide) (w_cb ca_intI (w_cons (w_ixOwn rfl (w_c ⟨_, 1, _, rfl, rfl, rfl, w_nil ⟨_, rfl, ?_⟩⟩)))))
  refine m_seq (m_asg (js := []) (by decide) ?_)
  walk_at "ev"
  refine ⟨.inl ⟨by omega, by omega⟩, ?_⟩
  refine w_op od_I (w_c (w_ixOwn rfl (w_c ⟨_, 2, _, rfl, rfl, rfl, _, _, rfl, rfl, .inl ⟨by omega, by omega⟩, ?_⟩)))
  walk_at "ev"
  have he : 0 ≤ ((b : Int) * ((b : Int) % 24001 + 19001) + 58013 * ((k : Int) + 1) + 73) % 2147482819 := Int.emod_nonneg _ (by decide)
  have hl : ((b : Int) * ((b : Int) % 24001 + 19001) + 58013 * ((k : Int) + 1) + 73) % 2147482819 < 2147482819 := Int.emod_lt_of_pos _ (by decide)
  obtain ⟨c, hc⟩ : ∃ c : Nat, ((b : Int) * ((b : Int) % 24001 + 19001) + 58013 * ((k : Int) + 1) + 73) % 2147482819 = (c : Int) := ⟨_, (Int.toNat_of_nonneg he).symm⟩
  rw [hc] at hl ⊢
  have hk1 : ((k : Int) + 1) = ((k + 1 : Nat) : Int) := rfl
  refine g_subOwn (w_c ⟨_, 1, 1, rfl, rfl, rfl, ?_⟩) rfl
  refine wS0_env [.own (mugD (a, c, k + 1)), .dat (.int (top : Nat)), .dat (.int (b : Nat)), .any] (by walk_at "wk") ?_
  have okc : ∀ a', MugOk (a', c, k + 1) (kk + 1) := fun a' => ⟨by show c < _; omega, by show k + 1 ≤ _; omega⟩
  have ht : (0 : Int) < (top : Int) ∧ (top : Int) < 1073741824 := by omega
  refine m_seq (m_ifS (w_test (w_op od_I0 (w_ixOwn rfl (w_c ⟨_, 0, _, rfl, rfl, rfl, w_c ⟨_, _, rfl, rfl, _, rfl, ite_dec (fun h => ?_) (fun h => ?_)⟩⟩)))))
  · have hq : 0 ≤ (a : Int) / (top : Int) := Int.ediv_nonneg (by omega) (by omega)
    obtain ⟨a', ha'⟩ : ∃ a' : Nat, (a : Int) / (top : Int) = (a' : Int) := ⟨_, (Int.toNat_of_nonneg hq).symm⟩
    have hr0 : 0 ≤ (a : Int) % (top : Int) := Int.emod_nonneg _ (by omega)
    have hr1 : (a : Int) % (top : Int) < (top : Int) := Int.emod_lt_of_pos _ (by omega)
    obtain ⟨r, hr'⟩ : ∃ r : Nat, (a : Int) % (top : Int) = (r : Int) := ⟨_, (Int.toNat_of_nonneg hr0).symm⟩
    refine m_seq (m_asg (js := [3]) (by decide) (w_cb ca_divmod (w_cons (w_ixOwn rfl (w_c ⟨_, 0, _, rfl, rfl, rfl, w_cons (w_var rfl (w_nil ⟨_, _, rfl, ht, ?_⟩))⟩)))))
    rw [ha', hr']
    refine g_tup ⟨_, rfl, rfl, g_cons (g_subOwn (w_c ⟨_, 0, 0, rfl, rfl, rfl, g_cons (g_name (by decide) (g_nil ?_))⟩) rfl)⟩
    refine m_ret (w_var rfl ⟨(a', c, k + 1), rfl, okc a', ?_⟩)
    exact p r (by omega)
  · refine m_next ?_
    have hr0 : 0 ≤ ((c : Int) / 157) % (top : Int) := Int.emod_nonneg _ (by omega)
    have hr1 : ((c : Int) / 157) % (top : Int) < (top : Int) := Int.emod_lt_of_pos _ (by omega)
    obtain ⟨r, hr'⟩ : ∃ r : Nat, ((c : Int) / 157) % (top : Int) = (r : Int) := ⟨_, (Int.toNat_of_nonneg hr0).symm⟩
    refine m_ret (w_op od_I (w_cb ca_intI (w_cons (w_op od_I (w_ixOwn rfl (w_c ⟨_, 1, _, rfl, rfl, rfl, w_c ⟨_, _, rfl, rfl, ⟨by decide, by decide⟩, w_nil ⟨_, rfl, w_var rfl ⟨_, _, rfl, rfl, by omega, ?_⟩⟩⟩⟩))))))
    rw [hr']
    exact ⟨(a, c, k + 1), rfl, okc a, p r (by omega)⟩
theorem O_law_of (T : Tx K mg) (O_law_sip : OkDM Pr w K mg base 1 1 "_law_sip" ["_law_mug_here", "_law_top"] S_sip) : OkDM Pr w K mg base 2 1 "_law_of" ["_law_mug_here", "_law_things"] S_of := by
  refine okm_mk T.f_law_of sc_law_of (fun ds P ⟨a, b, e, _⟩ => by rw [e]; rfl) (fun f cdv A outer s H E hr => ⟨_, 
    (pss_one (ps_ret (pe_ix (kix_seq K) (pv 1) (pe_ok O_law_sip (hr.mono (by decide)) (pa_cons (pv 0) (pa_cons (pe_callB (kcall_len K) rfl T.z_len PySem.boot_len (pa_cons (pv 1) pa_nil)) pa_nil))) (fun _ _ => rfl)))),
    fun x kk ds P ok cap ⟨d, es, e, he, h1, h2, p⟩ => ?_⟩) fun _ _ _ _ _ _ us hl => match us, hl with | [_, _], _ => rfl
  subst e
  refine m_ret (w_op od_ix (w_var rfl (w_callM rfl (w_cons (w_cb ca_len (w_cons (w_var rfl (w_nil ⟨d, es, rfl, he, w_nil ⟨x, kk, rfl, ok, cap, es.length, rfl, h1, h2, fun i hi x' ok' => ?_⟩⟩))))))))
  exact ⟨es, i, es[i], he, rfl, atI_nat (List.getElem?_eq_getElem hi), x', rfl, ok', p i _ (List.getElem?_eq_getElem hi)⟩
theorem O_law_stretch (T : Tx K mg) (O_law_sip : OkDM Pr w K mg base 1 1 "_law_sip" ["_law_mug_here", "_law_top"] S_sip) (O_law_of : OkDM Pr w K mg base 2 1 "_law_of" ["_law_mug_here", "_law_things"] S_of) : OkDM Pr w K mg base 3 2 "_law_stretch" ["_law_mug_here"] S_stretch := by
  refine okm_mk T.f_law_stretch sc_law_stretch (fun ds P ⟨e, _⟩ => by rw [e]; rfl) (fun f cdv A outer s H E hr => ⟨_, 
    (pss_cons (ps_setA (i := 1) sc_law_stretch.nd (pe_op op_sub (pe_ok O_law_sip (hr.mono (by decide)) (pa_cons (pv 0) (pa_cons pe_int pa_nil))) pe_int))
      (pss_one (ps_ret (pe_tup (pa_cons (pv 1) (pa_cons (pe_op op_add (pv 1) (pe_ok O_law_of (hr.mono (by decide)) (pa_cons (pv 0) (pa_cons (pe_lst (pa_cons pe_int (pa_cons pe_int (pa_cons pe_int (pa_cons pe_int (pa_cons pe_int pa_nil)))))) pa_nil)))) pa_nil)))))),
    fun x kk ds P ok cap ⟨e, p⟩ => ?_⟩) fun _ _ _ _ _ _ us hl => match us, hl with | [_], _ => rfl
  subst e
  refine m_seq (m_set (by decide) (w_op od_I0 (w_callM rfl (w_cons (w_c (w_nil ⟨x, kk, rfl, ok, by omega, 10, rfl, by decide, by decide, fun i hi x1 ok1 => w_c ⟨_, _, rfl, rfl, ?_⟩⟩))))))
  refine m_ret (w_tup (w_cons (w_var rfl (w_cons (w_op od_I0 (w_var rfl (w_callM rfl (w_cons (w_lst ?_)))))))))
  walk_at "ev"
  refine ⟨x1, kk + 1, rfl, ok1, by omega, _, _, rfl, rfl, show 1 ≤ 5 by decide, show 5 ≤ 1000 by decide, fun j e he x2 ok2 => ?_⟩
  have hj := (List.getElem?_eq_some_iff.mp he).1
  have fin : ∀ v : Int, 0 ≤ v → v ≤ 4 → MugEnd (kk + 2) P (.tup [.int ((i : Int) - 2), .int ((i : Int) - 2 + v)]) [.own (mugD x2), .dat (.int ((i : Int) - 2))] := fun v h0 h4 => ⟨x2, rfl, ok2, p ((i : Int) - 2, (i : Int) - 2 + v) ⟨by show -2 ≤ (i : Int) - 2; omega, by show (i : Int) - 2 ≤ (i : Int) - 2 + v; omega, by show (i : Int) - 2 + v ≤ 11; omega⟩⟩
  rcases (show j = 0 ∨ j = 1 ∨ j = 2 ∨ j = 3 ∨ j = 4 by simp at hj; omega) with e | e | e | e | e <;> subst e
  all_goals
    obtain rfl := Option.some.inj
        he
    exact ⟨_, _, rfl, rfl, w_nil ⟨show 2 ≤ 100000 by decide, fin _ (by decide) (by decide)⟩⟩
theorem O_law_body (T : Tx K mg) (O_law_stretch : OkDM Pr w K mg base 3 2 "_law_stretch" ["_law_mug_here"] S_stretch) : OkDM Pr w K mg base 4 36 "_law_body" ["_law_mug_here", "_law_tall", "_law_wide"] S_body := by
  refine okm_mk T.f_law_body sc_law_body (fun ds P ⟨a, b, e, _⟩ => by rw [e]; rfl) (fun f cdv A outer s H E hr => ⟨_, 
    (pss_one (ps_ret (pe_lc (own := [("_law_spot", 3)]) rfl sc_law_body.nd (pi_range1 rfl T.z_range (pa_cons (pv 1) pa_nil)) (blkOk_by (by kernel_rfl)) (by intro _ _ _ _ _; exact pg_nameA (i := 3) sc_law_body.nd) (by intro _ _ _ _ _; exact pts_nil) (by intro _ _ _ _ _; exact (pe_lc (own := [("_law_lap", 4)]) rfl sc_law_body.nd (pi_range1 rfl T.z_range (pa_cons (pv 2) pa_nil)) (blkOk_by (by kernel_rfl)) (by intro _ _ _ _ _; exact pg_nameA (i := 4) sc_law_body.nd) (by intro _ _ _ _ _; exact pts_nil) (by intro _ _ _ _ _; exact (pe_ok O_law_stretch (hr.mono (by decide)) (pa_cons (pv 0) pa_nil)))))))),
    fun x kk ds P ok cap ⟨t, w, e, ht, hw, p⟩ => ?_⟩) fun _ _ _ _ _ _ us hl => match us, hl with | [_, _, _], _ => rfl
  subst e
  unfold mugCap at cap
  refine m_ret (w_lc (i_rng1 (w_cons (w_var rfl (w_nil ⟨_, rfl, ⟨by omega, by omega⟩, ?_⟩)))))
  rw [show ((t : Nat) : Int).toNat = t by omega, nums_seq]
  refine lcd_acc (fun b : Tg => .lst (strD w b)) (fun _ _ => (0, 0)) (fun i B ρ => Stop (∃ x, ρ = [.own (mugD x), .dat (.int (t : Nat)), .dat (.int (w : Nat)), .any, .any] ∧ MugOk x (kk + 6 * i) ∧ ∀ i' k, i' < i → k < w → DrOk (B i' k))) (by omega) rfl (stop ⟨x, rfl, ok, fun i' k h => absurd h (Nat.not_lt_zero _)⟩) (fun i B ρ hi hp => ?_) (fun B ρ hp => ?_)
  · obtain ⟨x1, e, ok1, hB⟩ := hp.go
    subst e
    refine g_name (by decide) (w_yes ⟨rfl, w_lc (i_rng1 (w_cons (w_var rfl (w_nil ⟨_, rfl, ⟨by omega, by omega⟩, ?_⟩))))⟩)
    rw [show ((w : Nat) : Int).toNat = w by omega, nums_seq]
    refine lcd_acc stD (fun _ => (0, 0)) (fun k b ρ => Stop (∃ x, ρ = [.own (mugD x), .dat (.int (t : Nat)), .dat (.int (w : Nat)), .dat (.int (0 + (i : Nat))), .any] ∧ MugOk x (kk + 6 * i + 2 * k) ∧ ∀ k', k' < k → DrOk (b k'))) (by omega) rfl (stop ⟨x1, rfl, ok1, fun k' h => absurd h (Nat.not_lt_zero _)⟩) (fun k b ρ hk hp => ?_) (fun b ρ hp => ?_)
    · obtain ⟨x2, e, ok2, hb⟩ := hp.go
      subst e
      refine g_name (by decide) (w_yes ⟨rfl, w_callM rfl (w_nil ⟨x2, _, rfl, ok2, by unfold mugCap; omega, rfl, fun y hy x3 ok3 => ⟨y, rfl, stop ⟨x3, rfl, ok3.mono (by omega), fun k' hk' => ?_⟩⟩⟩)⟩)
      by_cases z : k' = k
      · rw [z, updN_same]; exact hy
      · rw [updN_ne z]; exact hb k' (by omega)
    · obtain ⟨x2, e, ok2, hb⟩ := hp.go
      subst e
      refine ⟨b, rfl, stop ⟨x2, rfl, ok2.mono (by omega), fun i' k hi' hk => ?_⟩⟩
      by_cases z : i' = i
      · rw [z, updN_same]; exact hb k hk
      · rw [updN_ne z]; exact hB i' k (by omega) hk
  · obtain ⟨x1, e, ok1, hB⟩ := hp.go
    subst e
    exact ⟨x1, rfl, ok1.mono (by omega), p B hB⟩
theorem heads_names : ∀ x ∈ (["x", "y", "zest", "b"] : List Str), nameOk x := by
  intro x hx
  have h : ∀ x ∈ (["x", "y", "zest", "b"] : List Str), (1 ≤ x.length ∧ x.length ≤ 8) ∧ (x.cps.toList.all fun c => decide (c ∈ letters.cps.toList)) = true := by decide +kernel
  obtain ⟨⟨h1, h2⟩, h3⟩ := h x hx
  exact ⟨h1, h2, fun c hc => of_decide_eq_true (List.all_eq_true.mp h3 c hc)⟩
theorem heads_nodup : (["x", "y", "zest", "b"] : List Str).Nodup := by decide +kernel
theorem seqIx_nat {i n : Nat} (h : i < n) : seqIndex? ((i : Nat) : Int) n = some i := by
  unfold seqIndex?
  dsimp only
  rw [if_neg (by omega : ¬ (i : Int) < 0), decide_eq_true (by omega : 0 ≤ (i : Int)), decide_eq_true (by omega : (i : Int) < (n : Int))]
  rfl
theorem erase_map {α β : Type} (f : α → β) : ∀ (L : List α) (j : Nat), (L.map f).eraseIdx j = (L.eraseIdx j).map f
  | [], _ => rfl
  | _ :: _, 0 => rfl
  | a :: L, j + 1 => by
    show f a :: (L.map f).eraseIdx j = f a :: (L.eraseIdx j).map f
    rw [erase_map f L j]
theorem erase_perm {α : Type} : ∀ {L : List α} {j : Nat} (h : j < L.length), (L[j] :: L.eraseIdx j).Perm L
  | a :: L, 0, _ => List.Perm.refl _
  | a :: L, j + 1, h => by
    show (L[j]'(Nat.lt_of_succ_lt_succ h) :: a :: L.eraseIdx j).Perm (a :: L)
    exact (List.Perm.swap _ _ _).trans ((erase_perm (Nat.lt_of_succ_lt_succ h)).cons a)
theorem map_updN {α : Type} (A : Nat → α) (i : Nat) (a : α) : (List.range (i + 1)).map (updN A i a) = (List.range i).map A ++ [a] := by
  rw [List.range_succ, List.map_append]
  congr 1
  · refine List.map_congr_left fun j hj => updN_ne ?_
    have := List.mem_range.mp hj
    omega
  · show [updN A i a i] = [a]
    rw [updN_same]
theorem O_law_heads (T : Tx K mg) (O_law_sip : OkDM Pr w K mg base 1 1 "_law_sip" ["_law_mug_here", "_law_top"] S_sip) : OkDM Pr w K mg base 2 3 "_law_heads" ["_law_mug_here", "_law_wide"] S_heads := by
  refine okm_mk T.f_law_heads sc_law_heads (fun ds P ⟨a, e, _⟩ => by rw [e]; rfl) (fun f cdv A outer s H E hr => ⟨_, 
    (pss_cons (ps_setA (i := 2) sc_law_heads.nd (pe_lst (pa_cons pe_str (pa_cons pe_str (pa_cons pe_str (pa_cons pe_str pa_nil))))))
      (pss_one (ps_ret (pe_callTy (kcall_tuple K) rfl T.z_tuple (by decide +kernel) (pa_cons (pe_lc (own := [("_law_lap", 3)]) rfl sc_law_heads.nd (pi_range1 rfl T.z_range (pa_cons (pv 1) pa_nil)) (blkOk_by (by kernel_rfl)) (by intro _ _ _ _ _; exact pg_nameA (i := 3) sc_law_heads.nd) (by intro _ _ _ _ _; exact pts_nil) (by intro _ _ _ _ _; exact (kpe_pop K (pv 2) (pa_cons (pe_ok O_law_sip (hr.mono (by decide)) (pa_cons (pv 0) (pa_cons (pe_callB (kcall_len K) rfl T.z_len PySem.boot_len (pa_cons (pv 2) pa_nil)) pa_nil))) pa_nil)))) pa_nil))))),
    fun x kk ds P ok cap ⟨w, e, hw, p⟩ => ?_⟩) fun _ _ _ _ _ _ us hl => match us, hl with | [_, _], _ => rfl
  subst e
  unfold mugCap at cap
  refine m_seq (m_setOwn (by decide) (w_cons (w_c (w_cons (w_c (w_cons (w_c (w_cons (w_c (w_nil ⟨show 4 ≤ 100000 by decide, ?_⟩))))))))))
  refine m_ret (w_cb ca_tuple (w_cons (w_lc (i_rng1 (w_cons (w_var rfl (w_nil ⟨_, rfl, ⟨by omega, by omega⟩, ?_⟩)))))))
  rw [show ((w : Nat) : Int).toNat = w by omega, nums_seq]
  refine lcd_acc D.str (fun _ => "") (fun i B ρ => Stop (∃ x L, ρ = [.own (mugD x), .dat (.int (w : Nat)), .own (L.map D.str), .any] ∧ MugOk x (kk + i) ∧ ((List.range i).map B ++ L).Perm ["x", "y", "zest", "b"])) (by omega) rfl (stop ⟨x, ["x", "y", "zest", "b"], rfl, ok, List.Perm.refl _⟩) (fun i B ρ hi hp => ?_) (fun B ρ hp => ?_)
  · obtain ⟨x1, L, e, ok1, hL⟩ := hp.go
    subst e
    have hlen := hL.length_eq
    rw [List.length_append, List.length_map, List.length_range] at hlen
    have hlen : i + L.length = 4 := hlen
    refine g_name (by decide) (w_yes ⟨rfl, w_popOwn rfl (w_callM rfl (w_cons (w_lenOwn rfl (w_nil ⟨x1, _, rfl, ok1, by unfold mugCap; omega, L.length, by rw [List.length_map], by omega, by omega, fun j hj x2 ok2 => ?_⟩))))⟩)
    refine ⟨L.map D.str, (j : Int), j, .str L[j], rfl, rfl, ⟨by omega, by omega⟩, seqIx_nat (by rw [List.length_map]; exact hj), by rw [List.getElem?_map, List.getElem?_eq_getElem hj]; rfl, L[j], rfl, stop ⟨x2, L.eraseIdx j, ?_, ok2.mono (by omega), ?_⟩⟩
    · rw [erase_map]
      rfl
    · rw [map_updN, List.append_assoc]
      exact (List.Perm.append_left _ (erase_perm hj)).trans hL
  · obtain ⟨x1, L, e, ok1, hL⟩ := hp.go
    subst e
    refine w_nil ⟨_, _, rfl, rfl, x1, rfl, ok1.mono (by omega), p B ⟨fun i hi => ?_, fun i j hij hj e => ?_⟩⟩
    · exact heads_names _ (hL.mem_iff.mp (List.mem_append_left _ (List.mem_map.mpr ⟨i, List.mem_range.mpr hi, rfl⟩)))
    · have hn := (List.nodup_append.mp (hL.nodup_iff.mpr heads_nodup)).1
      have h1 := List.pairwise_iff_getElem.mp hn i j (by rw [List.length_map, List.length_range]; omega) (by rw [List.length_map, List.length_range]; omega) hij
      rw [List.getElem_map, List.getElem_map, List.getElem_range, List.getElem_range] at h1
      exact h1 e.symm
theorem O_law_aim (T : Tx K mg) (O_law_of : OkDM Pr w K mg base 2 1 "_law_of" ["_law_mug_here", "_law_things"] S_of) : OkDM Pr w K mg base 3 14 "_law_aim" ["_law_mug_here", "_law_body_here"] S_aim := by
  refine okm_mk T.f_law_aim sc_law_aim (fun ds P ⟨a, b, c, e, _⟩ => by rw [e]; rfl) (fun f cdv A outer s H E hr => ⟨_, 
    (pss_cons (ps_par3 (i := 2) (j := 3) (l := 4) rfl sc_law_aim.nd rfl rfl rfl (by decide) (by decide) (by decide) rfl rfl rfl (pa_cons (pe_ok O_law_of (hr.mono (by decide)) (pa_cons (pv 0) (pa_cons (pv 1) pa_nil))) (pa_cons (pe_ok O_law_of (hr.mono (by decide)) (pa_cons (pv 0) (pa_cons (pv 1) pa_nil))) (pa_cons (pe_lst pa_nil) pa_nil))) (by rfl))
      (pss_cons (ps_for PassesOwn.never rfl (pi_range1 rfl T.z_range (pa_cons (pe_callB (kcall_len K) rfl T.z_len PySem.boot_len (pa_cons (pv 2) pa_nil)) pa_nil)) (pg_nameA (i := 5) sc_law_aim.nd) (pss_cons (ps_par (i := 6) (j := 7) rfl sc_law_aim.nd rfl rfl (by decide) rfl rfl (pa_cons (pe_ok O_law_of (hr.mono (by decide)) (pa_cons (pv 0) (pa_cons (pe_callTy (kcall_list K) rfl T.z_list (by decide +kernel) (pa_cons (pe_ix (kix_seq K) (pv 2) (pv 5) (fun _ _ => rfl)) pa_nil)) pa_nil))) (pa_cons (pe_ok O_law_of (hr.mono (by decide)) (pa_cons (pv 0) (pa_cons (pe_callTy (kcall_list K) rfl T.z_list (by decide +kernel) (pa_cons (pe_ix (kix_seq K) (pv 3) (pv 5) (fun _ _ => rfl)) pa_nil)) pa_nil))) pa_nil)) (by rfl))
      (pss_cons (ps_setA (i := 8) sc_law_aim.nd (pe_op op_fdiv (pe_op op_add (pv 6) (pv 7)) pe_int))
      (pss_one (ps_expr (kpe_append K (pv 4) (pa_cons (pe_tup (pa_cons (pe_op op_sub (pv 8) (pe_ok O_law_of (hr.mono (by decide)) (pa_cons (pv 0) (pa_cons (pe_lst (pa_cons pe_int (pa_cons pe_int (pa_cons pe_int (pa_cons pe_int pa_nil))))) pa_nil)))) (pa_cons (pe_op op_add (pv 8) (pe_ok O_law_of (hr.mono (by decide)) (pa_cons (pv 0) (pa_cons (pe_lst (pa_cons pe_int (pa_cons pe_int (pa_cons pe_int (pa_cons pe_int pa_nil))))) pa_nil)))) pa_nil))) pa_nil)))))))
      (pss_one (ps_ret (pe_callTy (kcall_tuple K) rfl T.z_tuple (by decide +kernel) (pa_cons (pv 4) pa_nil)))))),
    fun x kk ds P ok cap ⟨t, w, B, e, h1, ht, hw, hB, p⟩ => ?_⟩) fun _ _ _ _ _ _ us hl => match us, hl with | [_, _], _ => rfl
  subst e
  unfold mugCap at cap
  have hrow : ∀ (i : Nat) (e : D), (seqD t fun i => .lst (strD w (B i)))[i]? = some e → i < t ∧ e = .lst (strD w (B i)) := fun i e h => seqD_at h
  refine m_seq (m_par3Own (by decide) (by decide) (by decide) (w_callM rfl (w_cons (w_var rfl (w_nil ⟨x, kk, rfl, ok, by unfold mugCap; omega, _, _, rfl, rfl, by rw [seqD_len]; omega, by rw [seqD_len]; omega, fun i e he x1 ok1 => ?_⟩)))))
  obtain ⟨hi, rfl⟩ := hrow i e he
  refine w_callM rfl (w_cons (w_var rfl (w_nil ⟨x1, kk + 1, rfl, ok1, by unfold mugCap; omega, _, _, rfl, rfl, by rw [seqD_len]; omega, by rw [seqD_len]; omega, fun j e he x2 ok2 => ?_⟩)))
  obtain ⟨hj, rfl⟩ := hrow j e he
  refine wS0_env [.own (mugD x2), .dat (bodyD t w B), .dat (.lst (strD w (B i))), .dat (.lst (strD w (B j))), .own [], .any, .any, .any, .any] (by walk_at "wk") ?_
  have hl : (strD w (B i)).length = w := by unfold strD; rw [seqD_len]
  refine m_seq (m_for (i_rng1 (w_cons (w_cb ca_len (w_cons (w_var rfl (w_nil ⟨_, _, rfl, rfl, w_nil ⟨_, rfl, ⟨by omega, by omega⟩, ?_⟩⟩)))))))
  rw [hl, show ((w : Nat) : Int).toNat = w by omega, nums_seq]
  refine ⟨[5], fun k ρ => Stop (∃ x G d5 d6 d7 d8, ρ = [.own (mugD x), .dat (bodyD t w B), .dat (.lst (strD w (B i))), .dat (.lst (strD w (B j))), .own (strD k G), d5, d6, d7, d8] ∧ MugOk x (kk + 2 + 4 * k) ∧ ∀ k', k' < k → StOk 14 (G k')), by decide, stop ⟨x2, fun _ => (0, 0), .any, .any, .any, .any, rfl, ok2, fun k' h => absurd h (Nat.not_lt_zero _)⟩, fun k d ρ hd hp => ?_, fun ρ hp => ?_⟩
  · obtain ⟨hk, rfl⟩ := seqD_at hd
    obtain ⟨x3, G, d5, d6, d7, d8, e, ok3, hG⟩ := hp.go
    subst e
    rw [show D.int (0 + (k : Nat)) = D.int (k : Nat) by rw [Int.zero_add]]
    refine g_name (by decide) ?_
    have hend : ∀ (b : Tg) (l : Nat) (e : D), [D.int (b k).1, D.int (b k).2][l]? = some e → DrOk (b k) → ∃ v : Int, e = .int v ∧ -2 ≤ v ∧ v ≤ 11 := fun b l e he h => by
      obtain ⟨a1, a2, a3⟩ := h
      rcases (show l = 0 ∨ l = 1 by have := (List.getElem?_eq_some_iff.mp he).1; simp at this; omega) with z | z <;> subst z
      · exact ⟨_, (Option.some.inj he).symm, by omega, by omega⟩
      · exact ⟨_, (Option.some.inj he).symm, by omega, by omega⟩
    refine m_seq (m_par (by decide) (by decide) (w_cons (w_callM rfl (w_cons (w_cb ca_list (w_cons (w_op od_ix (w_var rfl (w_var rfl ⟨_, _, _, rfl, rfl, seqD_atI hk, w_nil ⟨_, _, rfl, rfl, w_nil ⟨x3, _, rfl, ok3, by unfold mugCap; omega, _, _, rfl, rfl, show 1 ≤ 2 by decide, show 2 ≤ 1000 by decide, fun l e he x4 ok4 => ?_⟩⟩⟩)))))))))
    obtain ⟨v, rfl, v1, v2⟩ := hend (B i) l e he (hB i k hi hk)
    refine w_cons (w_callM rfl (w_cons (w_cb ca_list (w_cons (w_op od_ix (w_var rfl (w_var rfl ⟨_, _, _, rfl, rfl, seqD_atI hk, w_nil ⟨_, _, rfl, rfl, w_nil ⟨x4, _, rfl, ok4, by unfold mugCap; omega, _, _, rfl, rfl, show 1 ≤ 2 by decide, show 2 ≤ 1000 by decide, fun l e he x5 ok5 => ?_⟩⟩⟩)))))))
    obtain ⟨u, rfl, u1, u2⟩ := hend (B j) l e he (hB j k hj hk)
    refine w_nil ⟨_, _, rfl, ?_⟩
    refine m_seq (m_set (by decide) (w_op od_I (w_op od_I0 (w_var rfl (w_var rfl ⟨_, _, rfl, rfl, w_c ⟨_, _, rfl, rfl, ⟨by decide, by decide⟩, ?_⟩⟩)))))
    have hm : -2 ≤ (v + u) / 2 ∧ (v + u) / 2 ≤ 11 := by omega
    generalize (v + u) / 2 = m at hm ⊢
    have hv : ∀ (l : Nat) (e : D), ([D.v (.int 0), D.v (.int 0), D.v (.int 1), D.v (.int 3)] : List D)[l]? = some e → ∃ q : Int, e = .int q ∧ 0 ≤ q ∧ q ≤ 3 := fun l e he => by
      rcases (show l = 0 ∨ l = 1 ∨ l = 2 ∨ l = 3 by have := (List.getElem?_eq_some_iff.mp he).1; simp at this; omega) with z | z | z | z <;> subst z
      all_goals exact ⟨_, (Option.some.inj he).symm, by decide, by decide⟩
    refine wS0_env [.own (mugD x5), .dat (bodyD t w B), .dat (.lst (strD w (B i))), .dat (.lst (strD w (B j))), .own (strD k G), .dat (.int (k : Nat)), .any, .any, .dat (.int m)] (by walk_at "wk") ?_
    refine m_append rfl (w_tup (w_cons (w_op od_I0 (w_var rfl (w_callM rfl (w_cons (w_lst ?_)))))))
    walk_at "ev"
    refine ⟨x5, _, rfl, ok5, by unfold mugCap; omega, _, _, rfl, rfl, show 1 ≤ 4 by decide, show 4 ≤ 1000 by decide, fun l e he x6 ok6 => ?_⟩
    obtain ⟨q, rfl, q1, q2⟩ := hv l e he
    refine ⟨_, _, rfl, rfl, w_cons (w_op od_I0 (w_var rfl (w_callM rfl (w_cons (w_lst ?_)))))⟩
    walk_at "ev"
    refine ⟨x6, _, rfl, ok6, by unfold mugCap; omega, _, _, rfl, rfl, show 1 ≤ 4 by decide, show 4 ≤ 1000 by decide, fun l e he x7 ok7 => ?_⟩
    obtain ⟨q', rfl, q3, q4⟩ := hv l e he
    refine ⟨_, _, rfl, rfl, w_nil ⟨show 2 ≤ 100000 by decide, strD k G, rfl, by unfold strD; rw [seqD_len]; omega, stop ⟨x7, updN G k (m - q, m + q'), .dat (.int (k : Nat)), .any, .any, .dat (.int m), ?_, ok7.mono (by omega), fun k' hk' => ?_⟩⟩⟩
    · show [_, _, _, _, Sl.own ((seqD k fun j => stD (G j)) ++ [stD (m - q, m + q')]), _, _, _, _] = _
      rw [seqD_push stD G k]
      rfl
    · by_cases z : k' = k
      · rw [z, updN_same]
        exact ⟨by show -14 ≤ m - q; omega, by show m - q ≤ m + q'; omega, by show m + q' ≤ 14; omega⟩
      · rw [updN_ne z]
        exact hG k' (by omega)
  · rw [seqD_len] at hp
    obtain ⟨x3, G, d5, d6, d7, d8, e, ok3, hG⟩ := hp.go
    subst e
    exact m_ret (w_pubE (i := 4) rfl (w_cb ca_tuple (w_cons (w_var rfl (w_nil ⟨_, _, rfl, rfl, x3, rfl, ok3.mono (by omega), p G hG⟩)))))
end
end Cs
set_option Elab.async false
set_option linter.all false
set_option maxRecDepth 100000
set_option maxHeartbeats 4200000
/-! Own sums. -/
namespace Cs
open PySem PySem.Spec PyProof.Rows L2 StX Dl Mx
local macro_rules | `(tactic| walk_at "ev1") => `(tactic| first
  | with_reducible refine w_seq ?_
  | with_reducible refine ite_true' ?_
  | with_reducible refine ite_false' ?_
  | with_reducible refine ite_nt ?_
  | with_reducible refine ite_nf ?_
  | with_reducible refine w_next ?_
  | with_reducible refine w_ret ?_
  | with_reducible refine w_set ?_
  | with_reducible refine w_par ?_
  | with_reducible refine w_par3 ?_
  | with_reducible refine w_drop ?_
  | with_reducible refine w_ifS ?_
  | refine w_var rfl ?_
  | with_reducible refine w_cd (zeroR (by assumption)) ?_
  | with_reducible refine w_cd (oneR (by assumption)) ?_
  | with_reducible refine w_c ?_
  | with_reducible refine w_yes ?_
  | with_reducible refine w_cons ?_
  | with_reducible refine w_star ?_
  | with_reducible refine w_nil ?_
  | with_reducible refine w_tup ?_
  | with_reducible refine w_lst ?_
  | with_reducible refine w_neg ?_
  | with_reducible refine w_if ?_
  | with_reducible refine w_test ?_
  | with_reducible refine w_B ?_
  | with_reducible refine w_not ?_
  | with_reducible refine w_notV ?_
  | with_reducible refine w_and ?_
  | with_reducible refine w_or ?_
  | with_reducible refine w_andV ?_
  | with_reducible refine w_orV ?_
  | with_reducible refine w_op od_I0 ?_
  | with_reducible refine w_op od_I ?_
  | with_reducible refine w_op od_ix ?_
  | with_reducible refine w_op od_ixL ?_
  | with_reducible refine w_op od_ixT ?_
  | with_reducible refine w_op od_eq ?_
  | with_reducible refine w_op od_ne ?_
  | with_reducible refine w_op od_isN ?_
  | with_reducible refine w_op od_notN ?_
  | with_reducible refine w_op od_cat ?_
  | with_reducible refine w_op od_catA ?_
  | with_reducible refine w_op od_rep ?_
  | with_reducible refine w_op od_repN ?_
  | with_reducible refine w_op od_eqD ?_
  | with_reducible refine w_op od_neD ?_
  | with_reducible refine w_op od_in ?_
  | with_reducible refine w_op od_notInD ?_
  | with_reducible refine w_slL ?_
  | with_reducible refine w_slT ?_
  | with_reducible refine w_noPart ?_
  | with_reducible refine w_some ?_
  | with_reducible refine w_call ?_
  | with_reducible refine w_cb ca_len ?_
  | with_reducible refine w_cb ca_len_str ?_
  | with_reducible refine w_cb ca_list ?_
  | with_reducible refine w_cb ca_tuple ?_
  | with_reducible refine w_cb ca_abs ?_
  | with_reducible refine w_cb ca_int ?_
  | with_reducible refine w_cb ca_all ?_
  | with_reducible refine w_cb ca_repr ?_
  | with_reducible refine w_lc ?_
  | with_reducible refine w_lc2 ?_
  | with_reducible refine w_for ?_
  | with_reducible refine w_meth ?_
  | with_reducible refine w_prop ?_
  | with_reducible refine w_mk ?_
  | with_reducible refine w_dc ?_
  | with_reducible refine w_dget2 ?_
  | with_reducible refine w_lstRg ?_
  | with_reducible refine w_cb ca_isi ?_
  | with_reducible refine w_cb ca_isC ?_
  | with_reducible refine w_cb ca_divmod ?_
  | with_reducible refine w_op od_inSign ?_
  | with_reducible refine i_enumA ?_
  | with_reducible refine i_zipTL ?_
  | with_reducible refine i_enumZip ?_
  | with_reducible refine i_zipTT ?_
  | with_reducible refine g_tup ?_
  | refine ⟨_, rfl, rfl, ?_⟩
  | with_reducible refine g_cons ?_
  | with_reducible refine g_name (by decide) ?_
  | with_reducible refine g_nil ?_
  | with_reducible refine w_asg (js := List.range 40) ?_
  | refine ⟨okEq_fr _, okEq_fr _, ?_⟩
  | with_reducible refine i_list ?_
  | with_reducible refine i_tup ?_
  | with_reducible refine i_rng1 ?_
  | with_reducible refine i_rng2 ?_
  | with_reducible refine i_enum ?_
  | with_reducible refine i_zip ?_
  | with_reducible refine i_str ?_
  | refine ⟨Nat.le_of_ble_eq_true rfl, ?_⟩
  | refine ⟨_, rfl, ?_⟩
  | refine ⟨_, _, rfl, ?_⟩
  | refine ⟨_, _, _, rfl, ?_⟩
  | refine ⟨_, _, _, _, rfl, rfl, rfl, ?_⟩
  | refine ⟨_, _, rfl, by decide, ?_⟩
  | refine ⟨_, _, rfl, rfl, ?_⟩
  | refine ⟨_, _, _, rfl, rfl, rfl, ?_⟩
  | refine ⟨_, _, _, rfl, rfl, ?_⟩
  | refine ⟨_, _, _, rfl, rfl, seqD_atI (by first | assumption | omega), ?_⟩
  | refine ⟨_, _, _, _, rfl, ?_⟩
  | refine ⟨_, _, _, _, _, rfl, ?_⟩
  | refine ⟨rfl, ?_⟩
  | refine ⟨by decide +kernel, ?_⟩)
local macro_rules | `(tactic| walk_at "ev") => `(tactic| repeat walk_at "ev1")
local macro_rules | `(tactic| walk_at "wk") => `(tactic| repeat (first | exact True.intro | refine ⟨.inr rfl, ?_⟩ | refine ⟨.inl rfl, ?_⟩))
local macro_rules | `(tactic| walk_at "ev1") => `(tactic| first
  | with_reducible refine w_cb ca_intI ?_)
def prD (n : Int) (d : Nat) : D := .tup [.int n, .int (d : Nat)]
def S_law_low : PS1 := fun ds P => ∃ (t : Int) (b : Nat), ds = [.int t, .int (b : Nat)] ∧ 0 < b ∧ b < 2 ^ 8999 ∧ P (fr (mkRat t b))
def S_law_plus : PS1 := fun ds P => ∃ (p : Rat) (n : Int) (d : Nat), ds = [fr p, prD n d] ∧ 0 < d ∧ sz 4000 p ∧ n.natAbs < 2 ^ 4000 ∧ d < 2 ^ 4000 ∧ P (fr (p + mkRat n d))
def S_law_is_less : PS1 := fun ds P => ∃ (b : Int) (q : Rat), ds = [prD b 1, fr q] ∧ b.natAbs ≤ 1000 ∧ sz 4000 q ∧ P (.bl (decide ((b : Rat) < q)))
def S_law_sum : PS1 := fun ds P => ∃ (n : Nat) (x : Mx.Row) (v : Nat → Int), ds = [.tup (rowD n x), .lst (seqD n fun j => .int (v j))] ∧ n ≤ 6 ∧ (∀ j, j < n → sz 400 (x j)) ∧ (∀ j, j < n → (v j).natAbs ≤ 1000) ∧ P (fr (sumTo n fun j => x j * (v j : Rat)))
theorem mkRat_share (x : Rat) (v : Int) : mkRat (x.num * v) x.den = x * (v : Rat) := by
  have h : (v : Rat) = mkRat v 1 := by rw [Rat.mkRat_eq_div]; show (v : Rat) = (v : Rat) / 1; grind
  rw [h]
  conv => rhs; rw [← Rat.mkRat_self x]
  rw [Rat.mkRat_mul_mkRat, Nat.mul_one]
theorem sz_add {a b : Nat} {p q : Rat} (h : sz a p) (h' : sz b q) : sz (a + b + 1) (p + q) := by
  have e : p + q = p - -q := by grind
  rw [e]
  exact sz_sub h (sz_neg h')
def S_marks : PS1 := S_signs_of
def S_law_ends : PS1 := fun ds P => ∃ (t w : Nat) (B : Bd) (k : Nat) (s : Int), ds = [bodyD t w B, .int (k : Nat), .int s] ∧ t ≤ 8 ∧ k < w ∧ P (.lst (seqD t fun j => .int (endOf (B j k) s)))
/-- wishes as pairs of numbers -/
def wishD (t w : Nat) (W : Nat → Nat → Int) (g : Nat → Int) : List D := seqD w fun k => .tup [.lst (seqD t fun j => .int (W k j)), .int (g k)]
def S_law_wants : PS1 := fun ds P => ∃ (t w : Nat) (B : Bd) (G : Tg) (s : Nat → Int), ds = [bodyD t w B, .tup (strD w G), sgS w s] ∧ t ≤ 8 ∧ w ≤ 4 ∧ (∀ k, k < w → s k = 1 ∨ s k = -1) ∧ P (.lst (wishD t w (Wd B s) (gd G s)))
def triD (l : Tri) : D := .tup [.int l.1, .int l.2.1, .int l.2.2]
def S_law_cuts : PS1 := fun ds P => ∃ (t w : Nat) (W : Nat → Nat → Int) (g : Nat → Int), ds = [.int (t : Nat), .lst (wishD t w W g)] ∧ 1 ≤ t ∧ t ≤ 3 ∧ w ≤ 4 ∧ P (.lst ((cuts w t W g).map triD))
section
variable {Pr : Program} {w : World} {K : PySem.W.Frag} {mg : Str → Option Value} {base : Heap}
theorem sc_law_low : FnScope ["_law_top", "_law_bottom", "_law_one", "_law_two"] ["_law_top", "_law_bottom"] (defScope s_law_low) := ⟨rfl, rfl, rfl, by decide +kernel, rfl, by decide +kernel, by decide +kernel⟩
theorem sc_law_plus : FnScope ["_law_one", "_law_two"] ["_law_one", "_law_two"] (defScope s_law_plus) := ⟨rfl, rfl, rfl, by decide +kernel, rfl, by decide +kernel, by decide +kernel⟩
theorem sc_law_is_less : FnScope ["_law_one", "_law_two"] ["_law_one", "_law_two"] (defScope s_law_is_less) := ⟨rfl, rfl, rfl, by decide +kernel, rfl, by decide +kernel, by decide +kernel⟩
theorem sc_law_sum : FnScope ["_law_shares_here", "_law_numbers", "_law_found", "_law_share", "_law_number_here"] ["_law_shares_here", "_law_numbers"] (defScope s_law_sum) := ⟨rfl, rfl, rfl, by decide +kernel, rfl, by decide +kernel, by decide +kernel⟩
theorem sc_law_marks : FnScope ["_law_wide", "_law_found", "_law_lap", "_law_later", "_law_each"] ["_law_wide"] (defScope s_law_marks) := ⟨rfl, rfl, rfl, by decide +kernel, rfl, by decide +kernel, by decide +kernel⟩
theorem O_law_low (T : Tx K mg) : OkD Pr w K mg base 1 "_law_low" ["_law_top", "_law_bottom"] S_law_low := by
  refine ok_mk T.f_law_low sc_law_low (fun ds P ⟨a, b, e, _⟩ => by rw [e]; rfl) (fun f cdv A outer s H E hr => ⟨_, 
    (pss_cons (ps_par (i := 2) (j := 3) rfl sc_law_low.nd rfl rfl (by decide) rfl rfl (pa_cons (pe_callB call_abs rfl T.z_abs (by decide +kernel) (pa_cons (pv 0) pa_nil)) (pa_cons (pe_callB call_abs rfl T.z_abs (by decide +kernel) (pa_cons (pv 1) pa_nil)) pa_nil)) (by rfl))
      (pss_cons (ps_while PassesOwn.never (pt_cmpR op_gt (pv 3) pe_int (nomark _)) (pss_one (ps_par (i := 2) (j := 3) rfl sc_law_low.nd rfl rfl (by decide) rfl rfl (pa_cons (pv 3) (pa_cons (pe_op op_mod (pe_callTy call_int1 rfl T.z_int (by decide +kernel) (pa_cons (pv 2) pa_nil)) (pv 3)) pa_nil)) (by rfl))))
      (pss_one (ps_ret (pe_ifExp (pt_cmpR op_gt (pv 1) pe_int (nomark _)) (pe_tup (pa_cons (pe_op op_fdivW (pv 0) (pv 2)) (pa_cons (pe_op op_fdivW (pv 1) (pv 2)) pa_nil))) (pe_tup (pa_cons (pe_op op_fdivW (pe_un un_neg (pv 0)) (pv 2)) (pa_cons (pe_op op_fdivW (pe_un un_neg (pv 1)) (pv 2)) pa_nil)))))))),
    fun ds P ⟨t, b, e, h0, hb, p⟩ => ?_⟩) fun _ _ _ _ _ _ us hl => match us, hl with | [_, _], _ => rfl
  subst e
  walk_at "ev"
  refine w_while (fun m ρ => Stop (∃ a' : Nat, ρ = [.dat (.int t), .dat (.int (b : Nat)), .dat (.int a'), .dat (.int m)] ∧ Nat.gcd a' m = Nat.gcd t.natAbs b)) b (stop ⟨t.natAbs, by rw [Int.natAbs_natCast]; rfl, rfl⟩) fun m ρ hM => ?_
  obtain ⟨a', e, hg⟩ := hM.go
  subst e
  walk_at "ev"
  refine ite_dec (fun h => ?_) (fun h => ?_)
  · walk_at "ev"
    refine ⟨by omega, ?_⟩
    walk_at "ev"
    refine ⟨a' % m, Nat.mod_lt _ (by omega), stop ⟨m, rfl, ?_⟩⟩
    rw [← hg, Nat.gcd_comm m, ← Nat.gcd_rec, Nat.gcd_comm]
  · have e0 : m = 0 := by omega
    subst e0
    rw [Nat.gcd_zero_right] at hg
    subst hg
    have hg : 0 < Nat.gcd t.natAbs b := Nat.gcd_pos_of_pos_right _ h0
    have hl : Nat.gcd t.natAbs b ≤ b := Nat.gcd_le_right _ h0
    have hc : ∀ i : Int, CDivW i (Nat.gcd t.natAbs b : Nat) := fun i => wide_div (b := 9000) (by omega) (by rw [Int.natAbs_natCast]; exact Nat.lt_of_le_of_lt hl (Nat.lt_of_lt_of_le hb (two_pow_le (by decide)))) (by omega) (by omega)
    walk_at "ev"
    refine ite_dec (fun _ => ?_) (fun h => absurd (by omega) h)
    walk_at "ev"
    refine ⟨hc _, ?_⟩
    walk_at "ev"
    refine ⟨hc _, ?_⟩
    walk_at "ev"
    have e : fr (mkRat t b) = .tup [.int (t / (Nat.gcd t.natAbs b : Nat)), .int ((b : Int) / (Nat.gcd t.natAbs b : Nat))] := by
      unfold fr
      rw [Rat.num_mkRat, Rat.den_mkRat, if_neg (by omega), if_neg (by omega), Nat.gcd_comm, Int.natCast_ediv]
    rw [← e]
    exact p
theorem O_law_plus (T : Tx K mg) (O_law_low : OkD Pr w K mg base 1 "_law_low" ["_law_top", "_law_bottom"] S_law_low) : OkD Pr w K mg base 2 "_law_plus" ["_law_one", "_law_two"] S_law_plus := by
  refine ok_mk T.f_law_plus sc_law_plus (fun ds P ⟨a, b, c, e, _⟩ => by rw [e]; rfl) (fun f cdv A outer s H E hr => ⟨_, 
    (pss_one (ps_ret (pe_ok O_law_low (hr.mono (by decide)) (pa_cons (pe_op op_add (pe_op op_mulW (pe_ix (kix_seq K) (pv 0) pe_int (fun _ _ => rfl)) (pe_ix (kix_seq K) (pv 1) pe_int (fun _ _ => rfl))) (pe_op op_mulW (pe_ix (kix_seq K) (pv 1) pe_int (fun _ _ => rfl)) (pe_ix (kix_seq K) (pv 0) pe_int (fun _ _ => rfl)))) (pa_cons (pe_op op_mulW (pe_ix (kix_seq K) (pv 0) pe_int (fun _ _ => rfl)) (pe_ix (kix_seq K) (pv 1) pe_int (fun _ _ => rfl))) pa_nil))))),
    fun ds P ⟨q, n, d, e, h0, hq, hn, hd, p⟩ => ?_⟩) fun _ _ _ _ _ _ us hl => match us, hl with | [_, _], _ => rfl
  subst e
  have two : ∀ {x : Nat}, x < 2 ^ 4000 → x < 2 ^ 8999 := fun h => Nat.lt_of_lt_of_le h (two_pow_le (by decide))
  unfold prD fr
  walk_at "ev"
  refine ⟨mul_wide (sz_num hq) (by rw [Int.natAbs_natCast]; exact two hd), ?_⟩
  walk_at "ev"
  refine ⟨mul_wide (two hn) (sz_den hq), ?_⟩
  walk_at "ev"
  refine ⟨mul_wide (sz_den hq) (by rw [Int.natAbs_natCast]; exact two hd), ?_⟩
  walk_at "ev"
  refine ⟨Nat.mul_pos q.den_pos h0, ?_, ?_⟩
  · have := Nat.mul_lt_mul'' hq.1 hd
    rw [← Nat.pow_add] at this
    exact Nat.lt_of_lt_of_le this (two_pow_le (by decide))
  · have e : q + mkRat n d = mkRat (q.num * d + n * q.den) (q.den * d) := by
      conv => lhs; rw [← Rat.mkRat_self q]
      exact Rat.mkRat_add_mkRat _ _ q.den_nz (by omega)
    show P (fr (mkRat (q.num * d + n * q.den) (q.den * d)))
    rw [← e]
    exact p
theorem O_law_is_less (T : Tx K mg) : OkD Pr w K mg base 1 "_law_is_less" ["_law_one", "_law_two"] S_law_is_less := by
  refine ok_mk T.f_law_is_less sc_law_is_less (fun ds P ⟨a, b, e, _⟩ => by rw [e]; rfl) (fun f cdv A outer s H E hr => ⟨_, 
    (pss_one (ps_ret (pe_cmpR op_lt (pe_op op_mulW (pe_ix (kix_seq K) (pv 0) pe_int (fun _ _ => rfl)) (pe_ix (kix_seq K) (pv 1) pe_int (fun _ _ => rfl))) (pe_op op_mulW (pe_ix (kix_seq K) (pv 1) pe_int (fun _ _ => rfl)) (pe_ix (kix_seq K) (pv 0) pe_int (fun _ _ => rfl))) (nomark _)))),
    fun ds P ⟨b, q, e, hb, hq, p⟩ => ?_⟩) fun _ _ _ _ _ _ us hl => match us, hl with | [_, _], _ => rfl
  subst e
  have hb' : b.natAbs < 2 ^ 8999 := Nat.lt_of_le_of_lt hb (Nat.lt_of_lt_of_le (by decide : 1000 < 2 ^ 10) (two_pow_le (by decide)))
  unfold prD fr
  walk_at "ev"
  refine ⟨mul_wide hb' (sz_den hq), ?_⟩
  walk_at "ev"
  refine ⟨mul_wide (sz_num hq) (Nat.one_lt_two_pow (by decide)), ?_⟩
  walk_at "ev"
  have e : decide ((b : Rat) < q) = decide (b * (q.den : Int) < q.num * ((1 : Nat) : Int)) := by
    rw [decide_eq_decide, Rat.lt_iff, Rat.num_intCast, Rat.den_intCast]
  rw [e] at p
  exact p
theorem O_law_sum (T : Tx K mg) (O_law_plus : OkD Pr w K mg base 2 "_law_plus" ["_law_one", "_law_two"] S_law_plus) : OkD Pr w K mg base 3 "_law_sum" ["_law_shares_here", "_law_numbers"] S_law_sum := by
  refine ok_mk T.f_law_sum sc_law_sum (fun ds P ⟨a, b, c, e, _⟩ => by rw [e]; rfl) (fun f cdv A outer s H E hr => ⟨_, 
    (pss_cons (ps_setA (i := 2) sc_law_sum.nd (pe_tup (pa_cons pe_int (pa_cons pe_int pa_nil))))
      (pss_cons (ps_for PassesOwn.never rfl (kpi_zipTL K T.z_zip (pa_cons (pv 0) (pa_cons (pv 1) pa_nil))) (kpg_tup K (n := 2) (pgs_cons (pg_nameA (i := 3) sc_law_sum.nd) (pgs_cons (pg_nameA (i := 4) sc_law_sum.nd) pgs_nil))) (pss_one (ps_setA (i := 2) sc_law_sum.nd (pe_ok O_law_plus (hr.mono (by decide)) (pa_cons (pv 2) (pa_cons (pe_tup (pa_cons (pe_op op_mulW (pe_ix (kix_seq K) (pv 3) pe_int (fun _ _ => rfl)) (pv 4)) (pa_cons (pe_ix (kix_seq K) (pv 3) pe_int (fun _ _ => rfl)) pa_nil))) pa_nil))))))
      (pss_one (ps_ret (pv 2))))),
    fun ds P ⟨n, x, v, e, hn, hx, hv, p⟩ => ?_⟩) fun _ _ _ _ _ _ us hl => match us, hl with | [_, _], _ => rfl
  subst e
  walk_at "ev"
  unfold rowD
  rw [pairs_seq]
  refine for_seq [3, 4] (fun i ρ => Stop (∃ d3 d4, ρ = [.dat (.tup (rowD n x)), .dat (.lst (seqD n fun j => .int (v j))), .dat (fr (sumTo i fun j => x j * (v j : Rat))), d3, d4] ∧ sz (1 + 500 * i) (sumTo i fun j => x j * (v j : Rat)))) (stop ⟨.any, .any, rfl, sz_zero (by decide)⟩) (fun i ρ hi hp => ?_) (fun ρ hp => ?_)
  · obtain ⟨d3, d4, e, hs⟩ := hp.go
    subst e
    have hxi := hx i hi
    have hvi : (v i).natAbs < 2 ^ 10 := Nat.lt_of_le_of_lt (hv i hi) (by decide)
    have hs4 : sz 4000 (sumTo i fun j => x j * (v j : Rat)) := hs.mono (by omega)
    have hprod : sz 410 (x i * (v i : Rat)) := sz_mul hxi (sz_int hvi (by decide))
    walk_at "ev"
    refine ⟨mul_wide (sz_num hxi) (Nat.lt_trans hvi (Nat.lt_of_lt_of_le (by decide : 2 ^ 10 < 2 ^ 11) (two_pow_le (by decide)))), ?_⟩
    walk_at "ev"
    refine ⟨(x i).den_pos, hs4, ?_, Nat.lt_trans hxi.1 (Nat.pow_lt_pow_right (by decide) (by decide)), ?_⟩
    · rw [Int.natAbs_mul]
      have := Nat.mul_lt_mul'' hxi.2 hvi
      rw [← Nat.pow_add] at this
      exact Nat.lt_of_lt_of_le this (two_pow_le (by decide))
    · rw [mkRat_share]
      exact stop ⟨.dat (fr (x i)), .dat (.int (v i)), rfl, (sz_add hs hprod).mono (by omega)⟩
  · obtain ⟨d3, d4, e, hs⟩ := hp.go
    subst e
    walk_at "ev"
    exact p
theorem O_law_marks (T : Tx K mg) : OkD Pr w K mg base 1 "_law_marks" ["_law_wide"] S_marks := by
  refine ok_mk T.f_law_marks sc_law_marks (fun ds P ⟨a, e, _⟩ => by rw [e]; rfl) (fun f cdv A outer s H E hr => ⟨_, 
    (pss_cons (ps_setA (i := 1) sc_law_marks.nd (pe_lst (pa_cons (pe_tup pa_nil) pa_nil)))
      (pss_cons (ps_for PassesOwn.never rfl (pi_range1 rfl T.z_range (pa_cons (pv 0) pa_nil)) (pg_nameA (i := 2) sc_law_marks.nd) (pss_cons (ps_setA (i := 3) sc_law_marks.nd (pe_lst pa_nil))
      (pss_cons (ps_for PassesOwn.never rfl (kpi_list K (pv 1)) (pg_nameA (i := 4) sc_law_marks.nd) (pss_one (ps_setA (i := 3) sc_law_marks.nd (pe_op op_cat (pv 3) (pe_lst (pa_cons (pe_op (kop_catA K) (pv 4) (pe_tup (pa_cons (pe_un un_neg pe_int) pa_nil))) (pa_cons (pe_op (kop_catA K) (pv 4) (pe_tup (pa_cons pe_int pa_nil))) pa_nil)))))))
      (pss_one (ps_setA (i := 1) sc_law_marks.nd (pv 3))))))
      (pss_one (ps_ret (pv 1))))),
    fun ds P ⟨n, e, hn, p⟩ => ?_⟩) fun _ _ _ _ _ _ us hl => match us, hl with | [_], _ => rfl
  subst e
  walk_at "ev"
  refine ⟨by omega, ?_⟩
  rw [show ((n : Nat) : Int).toNat = n by omega, nums_seq]
  refine for_seq [2] (fun i ρ => Stop (∃ d2 d3 d4, ρ = [.dat (.int (n : Nat)), .dat (.lst ((marks i).map sgD)), d2, d3, d4])) (stop ⟨.any, .any, .any, rfl⟩) (fun i ρ hi hp => ?_) (fun ρ hp => ?_)
  · obtain ⟨d2, d3, d4, e⟩ := hp.go
    subst e
    have hb : (marks i).length ≤ 1024 := by
      rw [marks_len]
      exact Nat.pow_le_pow_right (by omega) (show i ≤ 10 by omega)
    walk_at "ev"
    refine for_map [4] (fun l ρ => Stop (∃ d4, ρ = [.dat (.int (n : Nat)), .dat (.lst ((marks i).map sgD)), .dat (.int (0 + (i : Nat))), .dat (.lst ((((marks i).take l).flatMap fun r => [r ++ [-1], r ++ [1]]).map sgD)), d4])) (stop ⟨d4, rfl⟩) (fun l r ρ hr hp => ?_) (fun ρ hp => ?_)
    · obtain ⟨d4, e⟩ := hp.go
      subst e
      have hl := (List.getElem?_eq_some_iff.mp hr).1
      have h1 := (marks_mem (List.mem_of_getElem? hr)).1
      have hlen : ∀ L : List (List Int), (L.flatMap fun r => [r ++ [-1], r ++ [1]]).length = 2 * L.length := fun L => by
        induction L with
        | nil => rfl
        | cons r L ih => rw [List.flatMap_cons, List.length_append, ih, List.length_cons (as := L)]; show 2 + 2 * L.length = _; omega
      have hbig : ((((marks i).take l).flatMap fun r => [r ++ [-1], r ++ [1]]).map sgD).length + 2 ≤ 100000 := by
        rw [List.length_map, hlen, List.length_take]
        omega
      have hadd : ((((marks i).take l).flatMap fun r => [r ++ [-1], r ++ [1]]).map sgD) ++ [sgD (r ++ [-1]), sgD (r ++ [1])] = ((((marks i).take (l + 1)).flatMap fun r => [r ++ [-1], r ++ [1]]).map sgD) := by
        rw [List.take_add_one, hr, List.flatMap_append, List.map_append]
        rfl
      have h2 : ∀ z : Int, D.tup (r.map D.int ++ [D.int z]) = sgD (r ++ [z]) := fun z => by unfold sgD; rw [List.map_append]; rfl
      have h3 : ∀ z : Int, (r.map D.int).length + [D.int z].length ≤ 100000 := fun z => by rw [List.length_map, h1]; show i + 1 ≤ _; omega
      have hsg : sgD r = .tup (r.map D.int) := rfl
      generalize sgD r = dr at hsg
      refine g_name (by decide) ?_
      walk_at "ev"
      subst hsg
      refine ⟨_, _, rfl, rfl, h3 _, ?_⟩
      walk_at "ev"
      refine ⟨h3 _, ?_⟩
      walk_at "ev"
      rw [h2, h2]
      refine ⟨hbig, ?_⟩
      rw [hadd]
      exact stop ⟨_, rfl⟩
    · obtain ⟨d4, e⟩ := hp.go
      subst e
      rw [List.take_length]
      walk_at "ev"
      exact stop ⟨_, _, _, rfl⟩
  · obtain ⟨d2, d3, d4, e⟩ := hp.go
    subst e
    walk_at "ev"
    exact p
end
end Cs
set_option Elab.async false
set_option linter.all false
set_option maxRecDepth 100000
set_option maxHeartbeats 4200000
/-! Own wishes, own cuts. -/
namespace Cs
open PySem PySem.Spec PyProof.Rows L2 StX Dl Mx
local macro_rules | `(tactic| walk_at "ev1") => `(tactic| first
  | with_reducible refine w_seq ?_
  | with_reducible refine ite_true' ?_
  | with_reducible refine ite_false' ?_
  | with_reducible refine ite_nt ?_
  | with_reducible refine ite_nf ?_
  | with_reducible refine w_next ?_
  | with_reducible refine w_ret ?_
  | with_reducible refine w_set ?_
  | with_reducible refine w_par ?_
  | with_reducible refine w_par3 ?_
  | with_reducible refine w_drop ?_
  | with_reducible refine w_ifS ?_
  | refine w_var rfl ?_
  | with_reducible refine w_cd (zeroR (by assumption)) ?_
  | with_reducible refine w_cd (oneR (by assumption)) ?_
  | with_reducible refine w_c ?_
  | with_reducible refine w_yes ?_
  | with_reducible refine w_cons ?_
  | with_reducible refine w_star ?_
  | with_reducible refine w_nil ?_
  | with_reducible refine w_tup ?_
  | with_reducible refine w_lst ?_
  | with_reducible refine w_neg ?_
  | with_reducible refine w_if ?_
  | with_reducible refine w_test ?_
  | with_reducible refine w_B ?_
  | with_reducible refine w_not ?_
  | with_reducible refine w_notV ?_
  | with_reducible refine w_and ?_
  | with_reducible refine w_or ?_
  | with_reducible refine w_andV ?_
  | with_reducible refine w_orV ?_
  | with_reducible refine w_op od_I0 ?_
  | with_reducible refine w_op od_I ?_
  | with_reducible refine w_op od_ix ?_
  | with_reducible refine w_op od_ixL ?_
  | with_reducible refine w_op od_ixT ?_
  | with_reducible refine w_op od_eq ?_
  | with_reducible refine w_op od_ne ?_
  | with_reducible refine w_op od_isN ?_
  | with_reducible refine w_op od_notN ?_
  | with_reducible refine w_op od_cat ?_
  | with_reducible refine w_op od_catA ?_
  | with_reducible refine w_op od_rep ?_
  | with_reducible refine w_op od_repN ?_
  | with_reducible refine w_op od_eqD ?_
  | with_reducible refine w_op od_neD ?_
  | with_reducible refine w_op od_in ?_
  | with_reducible refine w_op od_notInD ?_
  | with_reducible refine w_slL ?_
  | with_reducible refine w_slT ?_
  | with_reducible refine w_noPart ?_
  | with_reducible refine w_some ?_
  | with_reducible refine w_call ?_
  | with_reducible refine w_cb ca_len ?_
  | with_reducible refine w_cb ca_len_str ?_
  | with_reducible refine w_cb ca_list ?_
  | with_reducible refine w_cb ca_tuple ?_
  | with_reducible refine w_cb ca_abs ?_
  | with_reducible refine w_cb ca_int ?_
  | with_reducible refine w_cb ca_all ?_
  | with_reducible refine w_cb ca_repr ?_
  | with_reducible refine w_lc ?_
  | with_reducible refine w_lc2 ?_
  | with_reducible refine w_for ?_
  | with_reducible refine w_meth ?_
  | with_reducible refine w_prop ?_
  | with_reducible refine w_mk ?_
  | with_reducible refine w_dc ?_
  | with_reducible refine w_dget2 ?_
  | with_reducible refine w_lstRg ?_
  | with_reducible refine w_cb ca_isi ?_
  | with_reducible refine w_cb ca_isC ?_
  | with_reducible refine w_cb ca_divmod ?_
  | with_reducible refine w_op od_inSign ?_
  | with_reducible refine i_enumA ?_
  | with_reducible refine i_zipTL ?_
  | with_reducible refine i_enumZip ?_
  | with_reducible refine i_zipTT ?_
  | with_reducible refine g_tup ?_
  | refine ⟨_, rfl, rfl, ?_⟩
  | with_reducible refine g_cons ?_
  | with_reducible refine g_name (by decide) ?_
  | with_reducible refine g_nil ?_
  | with_reducible refine w_asg (js := List.range 40) ?_
  | refine ⟨okEq_fr _, okEq_fr _, ?_⟩
  | with_reducible refine i_list ?_
  | with_reducible refine i_tup ?_
  | with_reducible refine i_rng1 ?_
  | with_reducible refine i_rng2 ?_
  | with_reducible refine i_enum ?_
  | with_reducible refine i_zip ?_
  | with_reducible refine i_str ?_
  | refine ⟨Nat.le_of_ble_eq_true rfl, ?_⟩
  | refine ⟨_, rfl, ?_⟩
  | refine ⟨_, _, rfl, ?_⟩
  | refine ⟨_, _, _, rfl, ?_⟩
  | refine ⟨_, _, _, _, rfl, rfl, rfl, ?_⟩
  | refine ⟨_, _, rfl, by decide, ?_⟩
  | refine ⟨_, _, rfl, rfl, ?_⟩
  | refine ⟨_, _, _, rfl, rfl, rfl, ?_⟩
  | refine ⟨_, _, _, rfl, rfl, ?_⟩
  | refine ⟨_, _, _, rfl, rfl, seqD_atI (by first | assumption | omega), ?_⟩
  | refine ⟨_, _, _, _, rfl, ?_⟩
  | refine ⟨_, _, _, _, _, rfl, ?_⟩
  | refine ⟨rfl, ?_⟩
  | refine ⟨by decide +kernel, ?_⟩)
local macro_rules | `(tactic| walk_at "ev") => `(tactic| repeat walk_at "ev1")
local macro_rules | `(tactic| walk_at "wk") => `(tactic| repeat (first | exact True.intro | refine ⟨.inr rfl, ?_⟩ | refine ⟨.inl rfl, ?_⟩))
local macro_rules | `(tactic| walk_at "ev1") => `(tactic| first
  | with_reducible refine w_cb ca_intB ?_)
section
variable {K : PySem.W.Frag} {ρ : Dl.Env} {E : De}
theorem wS.mono {t : TS} {E' : De} (h : wS K t ρ E') (n : ∀ ρ, E'.nx ρ → E.nx ρ) (r : ∀ d ρ, E'.rt d ρ → E.rt d ρ) (b : ∀ ρ, E'.bk ρ → E.bk ρ) (c : ∀ ρ, E'.ct ρ → E.ct ρ) : wS K t ρ E := fun σ Hk H2 F A hn hr hb hc =>
  h σ Hk H2 F A (fun ρ' σ' Hk' H2' p => hn ρ' σ' Hk' H2' (n ρ' p)) (fun y d ρ' σ' Hk' H2' p => hr y d ρ' σ' Hk' H2' (r d ρ' p)) (fun ρ' σ' Hk' H2' p => hb ρ' σ' Hk' H2' (b ρ' p)) (fun ρ' σ' Hk' H2' p => hc ρ' σ' Hk' H2' (c ρ' p))
/-- both ways meet -/
theorem w_ifJ {c : TT} {t u : TS} (ρX : Dl.Env) (h : wT K c ρ fun b ρ1 => if b = true then wS K t ρ1 ⟨fun ρ2 => ρ2 = ρX, fun _ _ => False, fun _ => False, fun _ => False⟩ else wS K u ρ1 ⟨fun ρ2 => ρ2 = ρX, fun _ _ => False, fun _ => False, fun _ => False⟩) (n : E.nx ρX) : wS K (tIfS c t u) ρ E :=
  w_ifS (h.mono fun b ρ1 p => by
    cases b with
    | true => exact wS.mono (show wS K t ρ1 _ from p) (fun ρ e => by subst e; exact n) (fun _ _ z => z.elim) (fun _ z => z.elim) (fun _ z => z.elim)
    | false => exact wS.mono (show wS K u ρ1 _ from p) (fun ρ e => by subst e; exact n) (fun _ _ z => z.elim) (fun _ z => z.elim) (fun _ z => z.elim))
end
def cut1 (t : Nat) : List Tri := [(-1, 0, 0), (0, -1, 0), (1, 1, 1)] ++ (if t < 3 then [(-1, -1, -1)] else [])
def cut2 (t : Nat) : List Tri := cut1 t ++ (if t < 2 then [(0, 1, 0)] else [])
def cutK (t : Nat) (W : Nat → Nat → Int) (g : Nat → Int) (k : Nat) : Tri := (z3 t W k 0 - z3 t W k 2, z3 t W k 1 - z3 t W k 2, g k - z3 t W k 2)
theorem cuts_eq (w t : Nat) (W : Nat → Nat → Int) (g : Nat → Int) : cuts w t W g = cut2 t ++ (List.range w).map (cutK t W g) := rfl
section
variable {Pr : Program} {w : World} {K : PySem.W.Frag} {mg : Str → Option Value} {base : Heap}
theorem sc_law_ends : FnScope ["_law_body_here", "_law_k", "_law_sign", "_law_each"] ["_law_body_here", "_law_k", "_law_sign"] (defScope s_law_ends) := ⟨rfl, rfl, rfl, by decide +kernel, rfl, by decide +kernel, by decide +kernel⟩
theorem sc_law_wants : FnScope ["_law_body_here", "_law_aim_here", "_law_marks_here", "_law_found", "_law_k", "_law_sign", "_law_numbers", "_law_end"] ["_law_body_here", "_law_aim_here", "_law_marks_here"] (defScope s_law_wants) := ⟨rfl, rfl, rfl, by decide +kernel, rfl, by decide +kernel, by decide +kernel⟩
theorem sc_law_cuts : FnScope ["_law_tall", "_law_wants_here", "_law_found", "_law_numbers", "_law_bound", "_law_all_three"] ["_law_tall", "_law_wants_here"] (defScope s_law_cuts) := ⟨rfl, rfl, rfl, by decide +kernel, rfl, by decide +kernel, by decide +kernel⟩
theorem O_law_ends (T : Tx K mg) : OkD Pr w K mg base 1 "_law_ends" ["_law_body_here", "_law_k", "_law_sign"] S_law_ends := by
  refine ok_mk T.f_law_ends sc_law_ends (fun ds P ⟨a, b, c, d, g, e, _⟩ => by rw [e]; rfl) (fun f cdv A outer s H E hr => ⟨_, 
    (pss_one (ps_ret (pe_lc (own := [("_law_each", 3)]) rfl sc_law_ends.nd (kpi_list K (pv 0)) (blkOk_by (by kernel_rfl)) (by intro _ _ _ _ _; exact pg_nameA (i := 3) sc_law_ends.nd) (by intro _ _ _ _ _; exact pts_nil) (by intro _ _ _ _ _; exact (pe_ix (kix_seq K) (pe_ix (kix_seq K) (pv 3) (pv 1) (fun _ _ => rfl)) (pe_callTy call_int1 rfl T.z_int (by decide +kernel) (pa_cons (pe_cmpR op_gt (pv 2) pe_int (nomark _)) pa_nil)) (fun _ _ => rfl)))))),
    fun ds P ⟨t, w, B, k, s, e, ht, hk, p⟩ => ?_⟩) fun _ _ _ _ _ _ us hl => match us, hl with | [_, _, _], _ => rfl
  subst e
  unfold bodyD
  walk_at "ev"
  refine lcd_seq (fun j => .int (endOf (B j k) s)) (by omega) rfl (fun j hj => ?_) p
  unfold strD
  walk_at "ev"
  unfold endOf
  by_cases h : 0 < s
  · rw [decide_eq_true h, if_pos h]
    exact ⟨_, 1, _, rfl, rfl, rfl, rfl, rfl⟩
  · rw [decide_eq_false h, if_neg h]
    exact ⟨_, 0, _, rfl, rfl, rfl, rfl, rfl⟩
theorem O_law_wants (T : Tx K mg) (O_law_ends : OkD Pr w K mg base 1 "_law_ends" ["_law_body_here", "_law_k", "_law_sign"] S_law_ends) : OkD Pr w K mg base 2 "_law_wants" ["_law_body_here", "_law_aim_here", "_law_marks_here"] S_law_wants := by
  refine ok_mk T.f_law_wants sc_law_wants (fun ds P ⟨a, b, c, d, g, e, _⟩ => by rw [e]; rfl) (fun f cdv A outer s H E hr => ⟨_, 
    (pss_cons (ps_setA (i := 3) sc_law_wants.nd (pe_lst pa_nil))
      (pss_cons (ps_for PassesOwn.never rfl (pi_range1 rfl T.z_range (pa_cons (pe_callB (kcall_len K) rfl T.z_len PySem.boot_len (pa_cons (pv 1) pa_nil)) pa_nil)) (pg_nameA (i := 4) sc_law_wants.nd) (pss_cons (ps_setA (i := 5) sc_law_wants.nd (pe_ix (kix_seq K) (pv 2) (pv 4) (fun _ _ => rfl)))
      (pss_cons (ps_setLc (i := 6) (own := [("_law_end", 7)]) rfl sc_law_wants.nd rfl rfl (sw_true rfl rfl rfl (by decide +kernel)) (kpi_list K (pe_ok O_law_ends (hr.mono (by decide)) (pa_cons (pv 0) (pa_cons (pv 4) (pa_cons (pv 5) pa_nil))))) (blkOk_by (by kernel_rfl)) (by intro _ _ _ _ _; exact pg_nameA (i := 7) sc_law_wants.nd) (by intro _ _ _ _ _; exact pts_nil) (by intro _ _ _ _ _; exact (pe_op op_mul (pv 5) (pv 7))))
      (pss_one (ps_expr (kpe_append K (pv 3) (pa_cons (pe_tup (pa_cons (pv 6) (pa_cons (pe_op op_mul (pv 5) (pe_ix (kix_seq K) (pe_ix (kix_seq K) (pv 1) (pv 4) (fun _ _ => rfl)) (pe_callTy call_int1 rfl T.z_int (by decide +kernel) (pa_cons (pe_cmpR op_gt (pv 5) pe_int (nomark _)) pa_nil)) (fun _ _ => rfl))) pa_nil))) pa_nil)))))))
      (pss_one (ps_ret (pv 3))))),
    fun ds P ⟨t, w, B, G, s, e, ht, hw, hs, p⟩ => ?_⟩) fun _ _ _ _ _ _ us hl => match us, hl with | [_, _, _], _ => rfl
  subst e
  refine w_seq (w_setOwn (w_nil ⟨Nat.zero_le _, ?_⟩))
  have hl : (strD w G).length = w := by unfold strD; rw [seqD_len]
  walk_at "ev"
  rw [hl]
  refine ⟨by omega, ?_⟩
  rw [show ((w : Nat) : Int).toNat = w by omega, nums_seq]
  refine for_seq [4] (fun k ρ => Stop (∃ d4 d5 d6, ρ = [.dat (bodyD t w B), .dat (.tup (strD w G)), .dat (sgS w s), .own (wishD t k (Wd B s) (gd G s)), d4, d5, d6, .any])) (stop ⟨.any, .any, .any, rfl⟩) (fun k ρ hk hp => ?_) (fun ρ hp => ?_)
  · obtain ⟨d4, d5, d6, e⟩ := hp.go
    subst e
    rw [show D.int (0 + (k : Nat)) = D.int (k : Nat) by rw [Int.zero_add]]
    unfold sgS
    walk_at "ev"
    refine ⟨ht, hk, ?_⟩
    have hsk := hs k hk
    have hend : ∀ x : Int × Int, s k * endOf x (s k) = if s k > 0 then x.2 else -x.1 := fun x => by
      unfold endOf
      rcases hsk with e | e <;> rw [e] <;> simp
    walk_at "ev"
    refine lcd_seq (fun j => .int (Wd B s k j)) (by omega) rfl (fun j hj => ?_) ?_
    · walk_at "ev"
      refine ⟨.inl (by rcases hsk with e | e <;> rw [e] <;> decide), ?_, rfl⟩
      rw [hend]
      rfl
    refine w_append rfl ?_
    unfold strD
    walk_at "ev"
    have hcm : ∀ z, CMul (s k) z := fun z => .inl (by rcases hsk with e | e <;> rw [e] <;> decide)
    have hgd := hend (G k)
    unfold endOf at hgd
    have fin : ∀ z : Int, s k * z = gd G s k → ∃ d4 d5 d6, ([.dat (bodyD t w B), .dat (.tup (seqD w fun k => stD (G k))), .dat (.tup (seqD w fun k => .int (s k))), .own (wishD t k (Wd B s) (gd G s) ++ [.tup [.lst (seqD t fun j => .int (Wd B s k j)), .int (s k * z)]]), .dat (.int (k : Nat)), .dat (.int (s k)), .dat (.lst (seqD t fun j => .int (Wd B s k j))), .any] : Dl.Env) = [.dat (bodyD t w B), .dat (.tup (seqD w fun k => stD (G k))), .dat (.tup (seqD w fun k => .int (s k))), .own (wishD t (k + 1) (Wd B s) (gd G s)), d4, d5, d6, .any] := fun z hz => by
      refine ⟨.dat (.int (k : Nat)), .dat (.int (s k)), .dat (.lst (seqD t fun j => .int (Wd B s k j))), ?_⟩
      rw [hz]
      unfold wishD
      rw [← seqD_snoc]
    have hlen : (wishD t k (Wd B s) (gd G s)).length < 100000 := by unfold wishD; rw [seqD_len]; omega
    by_cases h : 0 < s k
    · rw [decide_eq_true h]
      rw [if_pos h, if_pos h] at hgd
      exact ⟨_, 1, _, rfl, rfl, rfl, _, _, rfl, rfl, hcm _, w_nil ⟨show 2 ≤ 100000 by decide, _, rfl, hlen, stop (fin _ (by unfold gd; rw [if_pos h]; exact hgd))⟩⟩
    · rw [decide_eq_false h]
      rw [if_neg h, if_neg h] at hgd
      exact ⟨_, 0, _, rfl, rfl, rfl, _, _, rfl, rfl, hcm _, w_nil ⟨show 2 ≤ 100000 by decide, _, rfl, hlen, stop (fin _ (by unfold gd; rw [if_neg h]; exact hgd))⟩⟩
  · obtain ⟨d4, d5, d6, e⟩ := hp.go
    subst e
    exact w_ret (w_pubE (i := 3) rfl (w_var rfl p))
theorem O_law_cuts (T : Tx K mg) : OkD Pr w K mg base 1 "_law_cuts" ["_law_tall", "_law_wants_here"] S_law_cuts := by
  refine ok_mk T.f_law_cuts sc_law_cuts (fun ds P ⟨a, b, c, d, e, _⟩ => by rw [e]; rfl) (fun f cdv A outer s H E hr => ⟨_, 
    (pss_cons (ps_setA (i := 2) sc_law_cuts.nd (pe_lst (pa_cons (pe_tup (pa_cons (pe_un un_neg pe_int) (pa_cons pe_int (pa_cons pe_int pa_nil)))) (pa_cons (pe_tup (pa_cons pe_int (pa_cons (pe_un un_neg pe_int) (pa_cons pe_int pa_nil)))) (pa_cons (pe_tup (pa_cons pe_int (pa_cons pe_int (pa_cons pe_int pa_nil)))) pa_nil)))))
      (pss_cons (ps_if (pt_cmpR op_lt (pv 0) pe_int (nomark _)) (pss_one (ps_expr (kpe_append K (pv 2) (pa_cons (pe_tup (pa_cons (pe_un un_neg pe_int) (pa_cons (pe_un un_neg pe_int) (pa_cons (pe_un un_neg pe_int) pa_nil)))) pa_nil)))) pss_nil)
      (pss_cons (ps_if (pt_cmpR op_lt (pv 0) pe_int (nomark _)) (pss_one (ps_expr (kpe_append K (pv 2) (pa_cons (pe_tup (pa_cons pe_int (pa_cons pe_int (pa_cons pe_int pa_nil)))) pa_nil)))) pss_nil)
      (pss_cons (ps_for PassesOwn.never rfl (kpi_list K (pv 1)) (kpg_tup K (n := 2) (pgs_cons (pg_nameA (i := 3) sc_law_cuts.nd) (pgs_cons (pg_nameA (i := 4) sc_law_cuts.nd) pgs_nil))) (pss_cons (ps_setA (i := 5) sc_law_cuts.nd (pe_op op_cat (pe_callTy (kcall_list K) rfl T.z_list (by decide +kernel) (pa_cons (pv 3) pa_nil)) (pe_op op_rep (pe_lst (pa_cons pe_int pa_nil)) (pe_op op_sub pe_int (pv 0)))))
      (pss_one (ps_expr (kpe_append K (pv 2) (pa_cons (pe_tup (pa_cons (pe_op op_sub (pe_ix (kix_seq K) (pv 5) pe_int (fun _ _ => rfl)) (pe_ix (kix_seq K) (pv 5) pe_int (fun _ _ => rfl))) (pa_cons (pe_op op_sub (pe_ix (kix_seq K) (pv 5) pe_int (fun _ _ => rfl)) (pe_ix (kix_seq K) (pv 5) pe_int (fun _ _ => rfl))) (pa_cons (pe_op op_sub (pv 4) (pe_ix (kix_seq K) (pv 5) pe_int (fun _ _ => rfl))) pa_nil)))) pa_nil))))))
      (pss_one (ps_ret (pv 2))))))),
    fun ds P ⟨t, w, W, g, e, h1, h3, hw, p⟩ => ?_⟩) fun _ _ _ _ _ _ us hl => match us, hl with | [_, _], _ => rfl
  subst e
  have hlt : ∀ L : List Tri, L.length ≤ 5 → (L.map triD).length < 100000 := fun L h => by rw [List.length_map]; omega
  have goal2 : ∀ (L : List Tri) (a b c : Int), L.map triD ++ [.tup [.int a, .int b, .int c]] = (L ++ [(a, b, c)]).map triD := fun L a b c => by rw [List.map_append]; rfl
  refine w_seq (w_setOwn ?_)
  rcases (show t = 1 ∨ t = 2 ∨ t = 3 by omega) with e | e | e <;> subst e
  · walk_at "ev"
    refine ite_dec (fun _ => ?_) (fun h => absurd (by decide) h)
    refine w_append rfl ?_
    walk_at "ev"
    refine ite_dec (fun _ => ?_) (fun h => absurd (by decide) h)
    refine w_append rfl (w_tup (w_cons (w_c (w_cons (w_c (w_cons (w_c (w_nil ⟨show 3 ≤ 100000 by decide, _, rfl, show 4 < 100000 by decide, ?_⟩))))))))
    refine wS_env [.dat (.int (1 : Nat)), .dat (.lst (wishD 1 w W g)), .own ((cut2 1).map triD), .any, .any, .any] (by walk_at "wk") ?_
    refine w_seq (w_for (i_list (w_var rfl ⟨_, rfl, ?_⟩)))
    refine for_seq [3, 4] (fun k ρ => Stop (∃ d3 d4 d5, ρ = [.dat (.int (1 : Nat)), .dat (.lst (wishD 1 w W g)), .own ((cut2 1 ++ (List.range k).map (cutK 1 W g)).map triD), d3, d4, d5])) (stop ⟨.any, .any, .any, rfl⟩) (fun k ρ hk hp => ?_) (fun ρ hp => ?_)
    · obtain ⟨d3, d4, d5, e⟩ := hp.go
      subst e
      have hsz : ((cut2 1 ++ (List.range k).map (cutK 1 W g)).map triD).length < 100000 := by
        rw [List.length_map, List.length_append, List.length_map, List.length_range]
        have : (cut2 1).length ≤ 5 := by decide
        omega
      have e3 : (seqD 1 fun j => .int (W k j)) ++ (List.replicate ((3 : Int) - ((1 : Nat) : Int)).toNat [D.v (.int 0)]).flatten = [.int (z3 1 W k 0), .int (z3 1 W k 1), .int (z3 1 W k 2)] := rfl
      have e4 : ((cut2 1 ++ (List.range k).map (cutK 1 W g)).map triD) ++ [triD (cutK 1 W g k)] = (cut2 1 ++ (List.range (k + 1)).map (cutK 1 W g)).map triD := by
        simp only [List.range_succ, List.map_append, List.append_assoc, List.map_cons, List.map_nil]
      refine g_tup ⟨_, rfl, rfl, g_cons (g_name (by decide) (g_cons (g_name (by decide) (g_nil ?_))))⟩
      refine w_seq (w_set ?_)
      refine w_op od_cat (w_cb ca_list (w_cons (w_var rfl (w_nil ⟨_, _, rfl, rfl, w_op od_rep (w_lst (w_cons (w_c (w_nil ⟨show 1 ≤ 100000 by decide, w_op od_I0 (w_c (w_var rfl ⟨_, _, rfl, rfl, ⟨_, _, rfl, rfl, by decide, show 1 ≤ 100 by decide, ⟨_, _, rfl, rfl, show 1 + (3 - 1) ≤ 100000 by decide, ?_⟩⟩⟩))⟩))))⟩))))
      rw [e3]
      generalize hz0 : z3 1 W k 0 = a0
      generalize hz1 : z3 1 W k 1 = a1
      generalize hz2 : z3 1 W k 2 = a2
      refine w_append rfl ?_
      walk_at "ev"
      refine ⟨hsz, ?_⟩
      refine stop ⟨.dat (.lst (seqD 1 fun j => .int (W k j))), .dat (.int (g k)), .dat (.lst [.int a0, .int a1, .int a2]), ?_⟩
      rw [← e4]
      unfold cutK
      rw [hz0, hz1, hz2]
      rfl
    · obtain ⟨d3, d4, d5, e⟩ := hp.go
      subst e
      exact w_ret (w_pubE (i := 2) rfl (w_var rfl p))
  · walk_at "ev"
    refine ite_dec (fun _ => ?_) (fun h => absurd (by decide) h)
    refine w_append rfl ?_
    walk_at "ev"
    refine ite_dec (fun h => absurd h (by decide)) (fun _ => ?_)
    refine w_next ?_
    refine wS_env [.dat (.int (2 : Nat)), .dat (.lst (wishD 2 w W g)), .own ((cut2 2).map triD), .any, .any, .any] (by walk_at "wk") ?_
    refine w_seq (w_for (i_list (w_var rfl ⟨_, rfl, ?_⟩)))
    refine for_seq [3, 4] (fun k ρ => Stop (∃ d3 d4 d5, ρ = [.dat (.int (2 : Nat)), .dat (.lst (wishD 2 w W g)), .own ((cut2 2 ++ (List.range k).map (cutK 2 W g)).map triD), d3, d4, d5])) (stop ⟨.any, .any, .any, rfl⟩) (fun k ρ hk hp => ?_) (fun ρ hp => ?_)
    · obtain ⟨d3, d4, d5, e⟩ := hp.go
      subst e
      have hsz : ((cut2 2 ++ (List.range k).map (cutK 2 W g)).map triD).length < 100000 := by
        rw [List.length_map, List.length_append, List.length_map, List.length_range]
        have : (cut2 2).length ≤ 5 := by decide
        omega
      have e3 : (seqD 2 fun j => .int (W k j)) ++ (List.replicate ((3 : Int) - ((2 : Nat) : Int)).toNat [D.v (.int 0)]).flatten = [.int (z3 2 W k 0), .int (z3 2 W k 1), .int (z3 2 W k 2)] := rfl
      have e4 : ((cut2 2 ++ (List.range k).map (cutK 2 W g)).map triD) ++ [triD (cutK 2 W g k)] = (cut2 2 ++ (List.range (k + 1)).map (cutK 2 W g)).map triD := by
        simp only [List.range_succ, List.map_append, List.append_assoc, List.map_cons, List.map_nil]
      refine g_tup ⟨_, rfl, rfl, g_cons (g_name (by decide) (g_cons (g_name (by decide) (g_nil ?_))))⟩
      refine w_seq (w_set ?_)
      refine w_op od_cat (w_cb ca_list (w_cons (w_var rfl (w_nil ⟨_, _, rfl, rfl, w_op od_rep (w_lst (w_cons (w_c (w_nil ⟨show 1 ≤ 100000 by decide, w_op od_I0 (w_c (w_var rfl ⟨_, _, rfl, rfl, ⟨_, _, rfl, rfl, by decide, show 1 ≤ 100 by decide, ⟨_, _, rfl, rfl, show 2 + (3 - 2) ≤ 100000 by decide, ?_⟩⟩⟩))⟩))))⟩))))
      rw [e3]
      generalize hz0 : z3 2 W k 0 = a0
      generalize hz1 : z3 2 W k 1 = a1
      generalize hz2 : z3 2 W k 2 = a2
      refine w_append rfl ?_
      walk_at "ev"
      refine ⟨hsz, ?_⟩
      refine stop ⟨.dat (.lst (seqD 2 fun j => .int (W k j))), .dat (.int (g k)), .dat (.lst [.int a0, .int a1, .int a2]), ?_⟩
      rw [← e4]
      unfold cutK
      rw [hz0, hz1, hz2]
      rfl
    · obtain ⟨d3, d4, d5, e⟩ := hp.go
      subst e
      exact w_ret (w_pubE (i := 2) rfl (w_var rfl p))
  · walk_at "ev"
    refine ite_dec (fun h => absurd h (by decide)) (fun _ => ?_)
    walk_at "ev"
    refine ite_dec (fun h => absurd h (by decide)) (fun _ => ?_)
    refine w_next ?_
    refine wS_env [.dat (.int (3 : Nat)), .dat (.lst (wishD 3 w W g)), .own ((cut2 3).map triD), .any, .any, .any] (by walk_at "wk") ?_
    refine w_seq (w_for (i_list (w_var rfl ⟨_, rfl, ?_⟩)))
    refine for_seq [3, 4] (fun k ρ => Stop (∃ d3 d4 d5, ρ = [.dat (.int (3 : Nat)), .dat (.lst (wishD 3 w W g)), .own ((cut2 3 ++ (List.range k).map (cutK 3 W g)).map triD), d3, d4, d5])) (stop ⟨.any, .any, .any, rfl⟩) (fun k ρ hk hp => ?_) (fun ρ hp => ?_)
    · obtain ⟨d3, d4, d5, e⟩ := hp.go
      subst e
      have hsz : ((cut2 3 ++ (List.range k).map (cutK 3 W g)).map triD).length < 100000 := by
        rw [List.length_map, List.length_append, List.length_map, List.length_range]
        have : (cut2 3).length ≤ 5 := by decide
        omega
      have e3 : (seqD 3 fun j => .int (W k j)) ++ (List.replicate ((3 : Int) - ((3 : Nat) : Int)).toNat [D.v (.int 0)]).flatten = [.int (z3 3 W k 0), .int (z3 3 W k 1), .int (z3 3 W k 2)] := rfl
      have e4 : ((cut2 3 ++ (List.range k).map (cutK 3 W g)).map triD) ++ [triD (cutK 3 W g k)] = (cut2 3 ++ (List.range (k + 1)).map (cutK 3 W g)).map triD := by
        simp only [List.range_succ, List.map_append, List.append_assoc, List.map_cons, List.map_nil]
      refine g_tup ⟨_, rfl, rfl, g_cons (g_name (by decide) (g_cons (g_name (by decide) (g_nil ?_))))⟩
      refine w_seq (w_set ?_)
      refine w_op od_cat (w_cb ca_list (w_cons (w_var rfl (w_nil ⟨_, _, rfl, rfl, w_op od_rep (w_lst (w_cons (w_c (w_nil ⟨show 1 ≤ 100000 by decide, w_op od_I0 (w_c (w_var rfl ⟨_, _, rfl, rfl, ⟨_, _, rfl, rfl, by decide, show 1 ≤ 100 by decide, ⟨_, _, rfl, rfl, show 3 + (3 - 3) ≤ 100000 by decide, ?_⟩⟩⟩))⟩))))⟩))))
      rw [e3]
      generalize hz0 : z3 3 W k 0 = a0
      generalize hz1 : z3 3 W k 1 = a1
      generalize hz2 : z3 3 W k 2 = a2
      refine w_append rfl ?_
      walk_at "ev"
      refine ⟨hsz, ?_⟩
      refine stop ⟨.dat (.lst (seqD 3 fun j => .int (W k j))), .dat (.int (g k)), .dat (.lst [.int a0, .int a1, .int a2]), ?_⟩
      rw [← e4]
      unfold cutK
      rw [hz0, hz1, hz2]
      rfl
    · obtain ⟨d3, d4, d5, e⟩ := hp.go
      subst e
      exact w_ret (w_pubE (i := 2) rfl (w_var rfl p))
end
end Cs
set_option Elab.async false
set_option linter.all false
set_option maxRecDepth 100000
set_option maxHeartbeats 4200000
/-! What a blend keeps, what bars. -/
namespace Cs
open PySem PySem.Spec PyProof.Rows L2 StX Dl Mx
theorem w_appE {K : PySem.W.Frag} {ρ : Dl.Env} {P : PD} {te : TE} {i : Nat} {ds0 : List D} (h0 : ρ[i]? = some (.own ds0)) (h : wE K te ρ fun d ρ1 => ∃ ds, ρ1[i]? = some (.own ds) ∧ ds.length < 100000 ∧ P .non (ρ1.set i (.own (ds ++ [d])))) :
    wE K (tBM K "list" rAppend (tVar i) (tCons te tNil)) ρ P := fun σ Hk H2 A Q q => by
  obtain ⟨p, xs, e1, hk, hp, hr⟩ := A.getOwn h0
  refine ⟨.ref p, e1, .inl ⟨rfl, xs, .inl (.inl hp)⟩, h σ Hk H2 A _ fun y d ρ1 Hk1 H21 ⟨ds, h1, hl, p1⟩ A1 T1 r1 => ?_⟩
  obtain ⟨p', ys, e2, hk1, hp1, hr1⟩ := A1.getOwn h1
  obtain rfl : p' = p := by rw [e1] at e2; injection e2 with e2; injection e2 with e2; injection e2 with e2; exact e2.symm
  obtain ⟨A2, T2⟩ := A1.write h1 e1 (hr1.app (RpL.one r1))
  exact ⟨p', ys, y, rfl, rfl, hp1, by rw [hr1.length]; exact Nat.lt_of_lt_of_le hl (by decide), q _ _ _ Hk1 _ p1 A2 (T1.trans T2) rfl⟩
local macro_rules | `(tactic| walk_at "ev1") => `(tactic| first
  | with_reducible refine w_seq ?_
  | with_reducible refine ite_true' ?_
  | with_reducible refine ite_false' ?_
  | with_reducible refine ite_nt ?_
  | with_reducible refine ite_nf ?_
  | with_reducible refine w_next ?_
  | with_reducible refine w_ret ?_
  | with_reducible refine w_set ?_
  | with_reducible refine w_par ?_
  | with_reducible refine w_par3 ?_
  | with_reducible refine w_drop ?_
  | with_reducible refine w_ifS ?_
  | refine w_var rfl ?_
  | with_reducible refine w_cd (zeroR (by assumption)) ?_
  | with_reducible refine w_cd (oneR (by assumption)) ?_
  | with_reducible refine w_c ?_
  | with_reducible refine w_yes ?_
  | with_reducible refine w_cons ?_
  | with_reducible refine w_star ?_
  | with_reducible refine w_nil ?_
  | with_reducible refine w_tup ?_
  | with_reducible refine w_lst ?_
  | with_reducible refine w_neg ?_
  | with_reducible refine w_if ?_
  | with_reducible refine w_test ?_
  | with_reducible refine w_B ?_
  | with_reducible refine w_not ?_
  | with_reducible refine w_notV ?_
  | with_reducible refine w_and ?_
  | with_reducible refine w_or ?_
  | with_reducible refine w_andV ?_
  | with_reducible refine w_orV ?_
  | with_reducible refine w_op od_I0 ?_
  | with_reducible refine w_op od_I ?_
  | with_reducible refine w_op od_ix ?_
  | with_reducible refine w_op od_ixL ?_
  | with_reducible refine w_op od_ixT ?_
  | with_reducible refine w_op od_eq ?_
  | with_reducible refine w_op od_ne ?_
  | with_reducible refine w_op od_isN ?_
  | with_reducible refine w_op od_notN ?_
  | with_reducible refine w_op od_cat ?_
  | with_reducible refine w_op od_catA ?_
  | with_reducible refine w_op od_rep ?_
  | with_reducible refine w_op od_repN ?_
  | with_reducible refine w_op od_eqD ?_
  | with_reducible refine w_op od_neD ?_
  | with_reducible refine w_op od_in ?_
  | with_reducible refine w_op od_notInD ?_
  | with_reducible refine w_slL ?_
  | with_reducible refine w_slT ?_
  | with_reducible refine w_noPart ?_
  | with_reducible refine w_some ?_
  | with_reducible refine w_call ?_
  | with_reducible refine w_cb ca_len ?_
  | with_reducible refine w_cb ca_len_str ?_
  | with_reducible refine w_cb ca_list ?_
  | with_reducible refine w_cb ca_tuple ?_
  | with_reducible refine w_cb ca_abs ?_
  | with_reducible refine w_cb ca_int ?_
  | with_reducible refine w_cb ca_all ?_
  | with_reducible refine w_cb ca_repr ?_
  | with_reducible refine w_lc ?_
  | with_reducible refine w_lc2 ?_
  | with_reducible refine w_for ?_
  | with_reducible refine w_meth ?_
  | with_reducible refine w_prop ?_
  | with_reducible refine w_mk ?_
  | with_reducible refine w_dc ?_
  | with_reducible refine w_dget2 ?_
  | with_reducible refine w_lstRg ?_
  | with_reducible refine w_cb ca_isi ?_
  | with_reducible refine w_cb ca_isC ?_
  | with_reducible refine w_cb ca_divmod ?_
  | with_reducible refine w_op od_inSign ?_
  | with_reducible refine i_enumA ?_
  | with_reducible refine i_zipTL ?_
  | with_reducible refine i_enumZip ?_
  | with_reducible refine i_zipTT ?_
  | with_reducible refine g_tup ?_
  | refine ⟨_, rfl, rfl, ?_⟩
  | with_reducible refine g_cons ?_
  | with_reducible refine g_name (by decide) ?_
  | with_reducible refine g_nil ?_
  | with_reducible refine w_asg (js := List.range 40) ?_
  | refine ⟨okEq_fr _, okEq_fr _, ?_⟩
  | with_reducible refine i_list ?_
  | with_reducible refine i_tup ?_
  | with_reducible refine i_rng1 ?_
  | with_reducible refine i_rng2 ?_
  | with_reducible refine i_enum ?_
  | with_reducible refine i_zip ?_
  | with_reducible refine i_str ?_
  | refine ⟨Nat.le_of_ble_eq_true rfl, ?_⟩
  | refine ⟨_, rfl, ?_⟩
  | refine ⟨_, _, rfl, ?_⟩
  | refine ⟨_, _, _, rfl, ?_⟩
  | refine ⟨_, _, _, _, rfl, rfl, rfl, ?_⟩
  | refine ⟨_, _, rfl, by decide, ?_⟩
  | refine ⟨_, _, rfl, rfl, ?_⟩
  | refine ⟨_, _, _, rfl, rfl, rfl, ?_⟩
  | refine ⟨_, _, _, rfl, rfl, ?_⟩
  | refine ⟨_, _, _, rfl, rfl, seqD_atI (by first | assumption | omega), ?_⟩
  | refine ⟨_, _, _, _, rfl, ?_⟩
  | refine ⟨_, _, _, _, _, rfl, ?_⟩
  | refine ⟨rfl, ?_⟩
  | refine ⟨by decide +kernel, ?_⟩)
local macro_rules | `(tactic| walk_at "ev") => `(tactic| repeat walk_at "ev1")
local macro_rules | `(tactic| walk_at "wk") => `(tactic| repeat (first | exact True.intro | refine ⟨.inr rfl, ?_⟩ | refine ⟨.inl rfl, ?_⟩))
local macro_rules | `(tactic| walk_at "ev1") => `(tactic| first
  | refine w_appE rfl ?_
  | with_reducible refine w_cb ca_intB ?_)
/-- a comprehension that keeps nothing -/
theorem lcd_none {K : PySem.W.Frag} {P : PD} {ρ1 : Dl.Env} {g : TG} {tt : TT} {te : TE} {vs : List Nat} {ds : List D} (hn : ds.length ≤ 100000) (hw : wipeS ρ1 vs = ρ1)
    (h : ∀ (i : Nat) d, ds[i]? = some d → wG K vs g d ρ1 fun ρ3 => wT K tt ρ3 fun b ρ4 => b = false ∧ wipeS ρ4 vs = ρ1) (p : P (.lst []) ρ1) : LcD K g tt te vs P ds ρ1 := by
  refine lcd_filter (fun _ => false) hn hw (fun i d hd => ?_) ?_
  · intro σ Hk H2 y A r Q q
    refine h i d hd σ Hk H2 y A r Q fun ρ3 σ3 Hk3 H3 h3 => q ρ3 σ3 Hk3 H3 (h3.mono fun b ρ4 ⟨e1, e2⟩ => ?_)
    subst e1
    exact ⟨rfl, e2⟩
  · rw [show ds.filter (fun _ => false) = [] by simp]
    exact p
theorem sum_sz {x : Mx.Row} {v : Nat → Int} : ∀ {n : Nat}, (∀ j, j < n → sz 400 (x j)) → (∀ j, j < n → (v j).natAbs ≤ 1000) → sz (1 + 500 * n) (sumTo n fun j => x j * (v j : Rat))
  | 0, _, _ => sz_zero (by decide)
  | n + 1, hx, hv => by
    have h := sum_sz (n := n) (fun j hj => hx j (by omega)) (fun j hj => hv j (by omega))
    have hvi : (v n).natAbs < 2 ^ 10 := Nat.lt_of_le_of_lt (hv n (by omega)) (by decide)
    have hp : sz 410 (x n * (v n : Rat)) := sz_mul (hx n (by omega)) (sz_int hvi (by decide))
    exact (sz_add h hp).mono (by omega)
def S_law_keeps : PS1 := fun ds P => ∃ (t w : Nat) (x : Mx.Row) (W : Nat → Nat → Int) (g : Nat → Int), ds = [.tup (rowD t x), .lst (wishD t w W g)] ∧ t ≤ 6 ∧ w ≤ 4 ∧ (∀ j, j < t → sz 400 (x j)) ∧ (∀ k j, k < w → j < t → (W k j).natAbs ≤ 1000) ∧ (∀ k, k < w → (g k).natAbs ≤ 1000) ∧ (∀ k, k < w → sumTo t (fun j => x j * (W k j : Rat)) ≤ (g k : Rat)) ∧ P (.bl true)
def S_law_is_blend : PS1 := fun ds P => ∃ (t : Nat) (x : Mx.Row), ds = [.tup (rowD t x), .int (t : Nat)] ∧ t ≤ 6 ∧ (∀ j, j < t → sz 400 (x j)) ∧ (∀ j, j < t → 0 ≤ x j) ∧ sumTo t x = 1 ∧ P (.bl true)
/-- what a load meets -/
def met (B : Bd) (G : Tg) (s : Nat → Int) (j k : Nat) : Int := s k * (endOf (B j k) (s k) - endOf (G k) (s k))
def S_law_bars : PS1 := fun ds P => ∃ (t w : Nat) (B : Bd) (G : Tg) (s : Nat → Int) (y : Mx.Row), ds = [bodyD t w B, .tup (strD w G), sgS w s, .tup (rowD w y)] ∧ t ≤ 8 ∧ w ≤ 4 ∧ (∀ k, k < w → s k = 1 ∨ s k = -1) ∧ (∀ k, k < w → sz 400 (y k)) ∧ (∀ k, k < w → 0 ≤ y k) ∧ (∀ j k, j < t → k < w → (met B G s j k).natAbs ≤ 1000) ∧ (∀ j, j < t → 0 < sumTo w (fun k => y k * (met B G s j k : Rat))) ∧ P (.bl true)
theorem eqv_nil0 : PyData.eqv (py (.lst [])) (py (.lst [])) = true := eqv_nilL []
theorem num_nn {q : Rat} (h : 0 ≤ q) : ¬ q.num < 0 := fun z => by
  have h2 := num_neg.mp z
  exact absurd h2 (Rat.not_lt.mpr h)
theorem low_self (q : Rat) : fr (mkRat q.num q.den) = fr q := by rw [Rat.mkRat_self]
section
variable {Pr : Program} {w : World} {K : PySem.W.Frag} {mg : Str → Option Value} {base : Heap}
theorem sc_law_keeps : FnScope ["_law_blend", "_law_wants_here", "_law_numbers", "_law_bound"] ["_law_blend", "_law_wants_here"] (defScope s_law_keeps) := ⟨rfl, rfl, rfl, by decide +kernel, rfl, by decide +kernel, by decide +kernel⟩
theorem sc_law_is_blend : FnScope ["_law_blend", "_law_tall", "_law_odd", "_law_share"] ["_law_blend", "_law_tall"] (defScope s_law_is_blend) := ⟨rfl, rfl, rfl, by decide +kernel, rfl, by decide +kernel, by decide +kernel⟩
theorem sc_law_bars : FnScope ["_law_body_here", "_law_aim_here", "_law_marks_here", "_law_loads_here", "_law_each", "_law_numbers", "_law_k", "_law_at", "_law_load"] ["_law_body_here", "_law_aim_here", "_law_marks_here", "_law_loads_here"] (defScope s_law_bars) := ⟨rfl, rfl, rfl, by decide +kernel, rfl, by decide +kernel, by decide +kernel⟩
theorem O_law_keeps (T : Tx K mg) (O_law_is_less : OkD Pr w K mg base 1 "_law_is_less" ["_law_one", "_law_two"] S_law_is_less) (O_law_sum : OkD Pr w K mg base 3 "_law_sum" ["_law_shares_here", "_law_numbers"] S_law_sum) : OkD Pr w K mg base 4 "_law_keeps" ["_law_blend", "_law_wants_here"] S_law_keeps := by
  refine ok_mk T.f_law_keeps sc_law_keeps (fun ds P ⟨a, b, c, d, f, e, _⟩ => by rw [e]; rfl) (fun f cdv A outer s H E hr => ⟨_, 
    (pss_cons (ps_for PassesOwn.never rfl (kpi_list K (pv 1)) (kpg_tup K (n := 2) (pgs_cons (pg_nameA (i := 2) sc_law_keeps.nd) (pgs_cons (pg_nameA (i := 3) sc_law_keeps.nd) pgs_nil))) (pss_one (ps_if (pt_val (pe_ok O_law_is_less (hr.mono (by decide)) (pa_cons (pe_tup (pa_cons (pv 3) (pa_cons pe_int pa_nil))) (pa_cons (pe_ok O_law_sum (hr.mono (by decide)) (pa_cons (pv 0) (pa_cons (pv 2) pa_nil))) pa_nil)))) (pss_one (ps_ret pe_bl)) pss_nil)))
      (pss_one (ps_ret pe_bl))),
    fun ds P ⟨t, w, x, W, g, e, ht, hw, hx, hW, hg, hk, p⟩ => ?_⟩) fun _ _ _ _ _ _ us hl => match us, hl with | [_, _], _ => rfl
  subst e
  refine w_seq (w_for (i_list (w_var rfl ⟨_, rfl, ?_⟩)))
  refine for_seq [2, 3] (fun k ρ => Stop (∃ d2 d3, ρ = [.dat (.tup (rowD t x)), .dat (.lst (wishD t w W g)), d2, d3])) (stop ⟨.any, .any, rfl⟩) (fun k ρ hkw hp => ?_) (fun ρ hp => ?_)
  · obtain ⟨d2, d3, e⟩ := hp.go
    subst e
    refine g_tup ⟨_, rfl, rfl, g_cons (g_name (by decide) (g_cons (g_name (by decide) (g_nil ?_))))⟩
    walk_at "ev"
    refine ⟨ht, hx, fun j hj => hW k j hkw hj, ?_⟩
    walk_at "ev"
    refine ⟨hg k hkw, (sum_sz hx fun j hj => hW k j hkw hj).mono (by omega), ?_⟩
    rw [decide_eq_false (Rat.not_lt.mpr (hk k hkw))]
    walk_at "ev"
    exact stop ⟨_, _, rfl⟩
  · obtain ⟨d2, d3, e⟩ := hp.go
    subst e
    walk_at "ev"
    exact p
theorem O_law_is_blend (T : Tx K mg) (O_law_sum : OkD Pr w K mg base 3 "_law_sum" ["_law_shares_here", "_law_numbers"] S_law_sum) (O_law_low : OkD Pr w K mg base 1 "_law_low" ["_law_top", "_law_bottom"] S_law_low) : OkD Pr w K mg base 4 "_law_is_blend" ["_law_blend", "_law_tall"] S_law_is_blend := by
  refine ok_mk T.f_law_is_blend sc_law_is_blend (fun ds P ⟨a, b, e, _⟩ => by rw [e]; rfl) (fun f cdv A outer s H E hr => ⟨_, 
    (pss_cons (ps_if (PW.pt (pw_or (pt_not (pt_val (pe_callB (kcall_isi K) rfl T.z_isinstance (by decide +kernel) (pa_cons (pv 0) (pa_cons (pe_bltn (v := .ty "tuple") rfl T.z_tuple (by decide +kernel) rfl) pa_nil))))) (pw_or (pt_cmpR op_ne (pe_callB (kcall_len K) rfl T.z_len PySem.boot_len (pa_cons (pv 0) pa_nil)) (pv 1) (nomark _)) (pw_or1 (pt_cmpR (kop_neD K (by exact hr.units)) (pe_lc (own := [("_law_share", 3)]) rfl sc_law_is_blend.nd (kpi_tup K (pv 0)) (blkOk_by (by kernel_rfl)) (by intro _ _ _ _ _; exact pg_nameA (i := 3) sc_law_is_blend.nd) (by intro _ _ _ _ _; exact (pts_one (pt_cmpR op_lt (pe_ix (kix_seq K) (pv 3) pe_int (fun _ _ => rfl)) pe_int (nomark _)))) (by intro _ _ _ _ _; exact (pv 3))) (pe_lst pa_nil) (nomark _)))))) (pss_one (ps_ret pe_bl)) pss_nil)
      (pss_cons (ps_setLc (i := 2) (own := [("_law_share", 3)]) rfl sc_law_is_blend.nd rfl rfl (sw_true rfl rfl rfl (by decide +kernel)) (kpi_tup K (pv 0)) (blkOk_by (by kernel_rfl)) (by intro _ _ _ _ _; exact pg_nameA (i := 3) sc_law_is_blend.nd) (by intro _ _ _ _ _; exact (pts_one (pt_cmpR (kop_neD K (by exact hr.units)) (pe_ok O_law_low (hr.mono (by decide)) (pa_cons (pe_ix (kix_seq K) (pv 3) pe_int (fun _ _ => rfl)) (pa_cons (pe_ix (kix_seq K) (pv 3) pe_int (fun _ _ => rfl)) pa_nil))) (pv 3) (nomark _)))) (by intro _ _ _ _ _; exact (pv 3)))
      (pss_one (ps_ret (pe_and (pe_cmpR (kop_eqD K (by exact hr.units)) (pv 2) (pe_lst pa_nil) (nomark _)) (pe_one (pe_cmpR (kop_eqD K (by exact hr.units)) (pe_ok O_law_sum (hr.mono (by decide)) (pa_cons (pv 0) (pa_cons (pe_op op_rep (pe_lst (pa_cons pe_int pa_nil)) (pv 1)) pa_nil))) (pe_tup (pa_cons pe_int (pa_cons pe_int pa_nil))) (nomark _)))))))),
    fun ds P ⟨t, x, e, ht, hx, hn, h1, p⟩ => ?_⟩) fun _ _ _ _ _ _ us hl => match us, hl with | [_, _], _ => rfl
  subst e
  walk_at "ev"
  have hl : (rowD t x).length = t := by unfold rowD; rw [seqD_len]
  rw [hl, decide_eq_true rfl]
  walk_at "ev"
  refine lcd_none (by rw [hl]; omega) rfl (fun i d hd => ?_) ?_
  · obtain ⟨hi, rfl⟩ := seqD_at hd
    walk_at "ev"
    exact ⟨decide_eq_false (num_nn (hn i hi)), rfl⟩
  walk_at "ev"
  refine ⟨okE_nilL, okE_nilL, ?_⟩
  rw [eqv_nil0]
  walk_at "ev"
  refine lcd_none (by rw [hl]; omega) rfl (fun i d hd => ?_) ?_
  · obtain ⟨hi, rfl⟩ := seqD_at hd
    walk_at "ev"
    refine ⟨(x i).den_pos, Nat.lt_of_lt_of_le (hx i hi).1 (two_pow_le (by decide)), ?_⟩
    rw [low_self]
    walk_at "ev"
    rw [eqv_fr, decide_eq_true rfl]
    exact ⟨rfl, rfl⟩
  walk_at "ev"
  refine ⟨okE_nilL, okE_nilL, ?_⟩
  rw [eqv_nil0]
  walk_at "ev"
  refine ⟨⟨by omega, by omega⟩, by decide, ?_⟩
  rw [rep_seq, show ((t : Nat) : Int).toNat = t by omega]
  refine w_nil ⟨t, x, fun _ => 1, rfl, ht, hx, fun _ _ => show (1 : Int).natAbs ≤ 1000 by decide, ?_⟩
  have e1 : sumTo t (fun j => x j * ((1 : Int) : Rat)) = 1 := by
    rw [← h1]
    refine sumTo_congr fun j _ => ?_
    show x j * 1 = x j
    grind
  rw [e1]
  walk_at "ev"
  refine ⟨okEq_fr 1, okEq_fr 1, ?_⟩
  show P (.bl (PyData.eqv (py (fr 1)) (py (fr 1))))
  rw [eqv_fr, decide_eq_true rfl]
  exact p
theorem O_law_bars (T : Tx K mg) (O_law_sum : OkD Pr w K mg base 3 "_law_sum" ["_law_shares_here", "_law_numbers"] S_law_sum) (O_law_low : OkD Pr w K mg base 1 "_law_low" ["_law_top", "_law_bottom"] S_law_low) : OkD Pr w K mg base 4 "_law_bars" ["_law_body_here", "_law_aim_here", "_law_marks_here", "_law_loads_here"] S_law_bars := by
  refine ok_mk T.f_law_bars sc_law_bars (fun ds P ⟨a, b, c, d, f, g, e, _⟩ => by rw [e]; rfl) (fun f cdv A outer s H E hr => ⟨_, 
    (pss_cons (ps_if (PW.pt (pw_or (pt_not (pt_val (pe_callB (kcall_isi K) rfl T.z_isinstance (by decide +kernel) (pa_cons (pv 3) (pa_cons (pe_bltn (v := .ty "tuple") rfl T.z_tuple (by decide +kernel) rfl) pa_nil))))) (pw_or1 (pt_cmpR op_ne (pe_callB (kcall_len K) rfl T.z_len PySem.boot_len (pa_cons (pv 3) pa_nil)) (pe_callB (kcall_len K) rfl T.z_len PySem.boot_len (pa_cons (pv 1) pa_nil)) (nomark _))))) (pss_one (ps_ret pe_bl)) pss_nil)
      (pss_cons (ps_if (pt_cmpR (kop_neD K (by exact hr.units)) (pe_lc (own := [("_law_load", 8)]) rfl sc_law_bars.nd (kpi_tup K (pv 3)) (blkOk_by (by kernel_rfl)) (by intro _ _ _ _ _; exact pg_nameA (i := 8) sc_law_bars.nd) (by intro _ _ _ _ _; exact (pts_one (PW.pt (pw_or (pt_cmpR op_lt (pe_ix (kix_seq K) (pv 8) pe_int (fun _ _ => rfl)) pe_int (nomark _)) (pw_or1 (pt_cmpR (kop_neD K (by exact hr.units)) (pe_ok O_law_low (hr.mono (by decide)) (pa_cons (pe_ix (kix_seq K) (pv 8) pe_int (fun _ _ => rfl)) (pa_cons (pe_ix (kix_seq K) (pv 8) pe_int (fun _ _ => rfl)) pa_nil))) (pv 8) (nomark _))))))) (by intro _ _ _ _ _; exact (pv 8))) (pe_lst pa_nil) (nomark _)) (pss_one (ps_ret pe_bl)) pss_nil)
      (pss_cons (ps_for PassesOwn.never rfl (kpi_list K (pv 0)) (pg_nameA (i := 4) sc_law_bars.nd) (pss_cons (ps_setA (i := 5) sc_law_bars.nd (pe_lst pa_nil))
      (pss_cons (ps_for PassesOwn.never rfl (pi_range1 rfl T.z_range (pa_cons (pe_callB (kcall_len K) rfl T.z_len PySem.boot_len (pa_cons (pv 1) pa_nil)) pa_nil)) (pg_nameA (i := 6) sc_law_bars.nd) (pss_cons (ps_setA (i := 7) sc_law_bars.nd (pe_callTy call_int1 rfl T.z_int (by decide +kernel) (pa_cons (pe_cmpR op_gt (pe_ix (kix_seq K) (pv 2) (pv 6) (fun _ _ => rfl)) pe_int (nomark _)) pa_nil)))
      (pss_one (ps_expr (kpe_append K (pv 5) (pa_cons (pe_op op_mul (pe_ix (kix_seq K) (pv 2) (pv 6) (fun _ _ => rfl)) (pe_op op_sub (pe_ix (kix_seq K) (pe_ix (kix_seq K) (pv 4) (pv 6) (fun _ _ => rfl)) (pv 7) (fun _ _ => rfl)) (pe_ix (kix_seq K) (pe_ix (kix_seq K) (pv 1) (pv 6) (fun _ _ => rfl)) (pv 7) (fun _ _ => rfl)))) pa_nil))))))
      (pss_one (ps_if (pt_cmpR op_le (pe_ix (kix_seq K) (pe_ok O_law_sum (hr.mono (by decide)) (pa_cons (pv 3) (pa_cons (pv 5) pa_nil))) pe_int (fun _ _ => rfl)) pe_int (nomark _)) (pss_one (ps_ret pe_bl)) pss_nil)))))
      (pss_one (ps_ret pe_bl))))),
    fun ds P ⟨t, w, B, G, s, y, e, ht, hw, hs, hy, hn, hm, hp, p⟩ => ?_⟩) fun _ _ _ _ _ _ us hl => match us, hl with | [_, _, _, _], _ => rfl
  subst e
  walk_at "ev"
  have hl : (rowD w y).length = w := by unfold rowD; rw [seqD_len]
  have hl2 : (strD w G).length = w := by unfold strD; rw [seqD_len]
  rw [hl, hl2, decide_eq_true rfl]
  walk_at "ev"
  refine lcd_none (by rw [hl]; omega) rfl (fun i d hd => ?_) ?_
  · obtain ⟨hi, rfl⟩ := seqD_at hd
    walk_at "ev"
    rw [decide_eq_false (num_nn (hn i hi))]
    walk_at "ev"
    refine ⟨(y i).den_pos, Nat.lt_of_lt_of_le (hy i hi).1 (two_pow_le (by decide)), ?_⟩
    rw [low_self]
    walk_at "ev"
    rw [eqv_fr, decide_eq_true rfl]
    exact ⟨rfl, rfl⟩
  walk_at "ev"
  refine ⟨okE_nilL, okE_nilL, ?_⟩
  rw [eqv_nil0]
  refine ⟨_, rfl, ite_nt ?_⟩
  refine w_next ?_
  refine w_seq (w_for (i_list (w_var rfl ⟨_, rfl, ?_⟩)))
  refine for_seq [4] (fun j ρ => Stop (∃ d4 d5 d6 d7, ρ = [.dat (bodyD t w B), .dat (.tup (strD w G)), .dat (sgS w s), .dat (.tup (rowD w y)), d4, d5, d6, d7, .any])) (stop ⟨.any, .any, .any, .any, rfl⟩) (fun j ρ hj hp' => ?_) (fun ρ hp' => ?_)
  · obtain ⟨d4, d5, d6, d7, e⟩ := hp'.go
    subst e
    refine g_name (by decide) ?_
    refine w_seq (w_setOwn (w_nil ⟨Nat.zero_le _, ?_⟩))
    refine w_seq (w_for (i_rng1 (w_cons (w_cb ca_len (w_cons (w_var rfl (w_nil ⟨_, _, rfl, rfl, w_nil ⟨_, rfl, ⟨by omega, by omega⟩, ?_⟩⟩)))))))
    rw [hl2, show ((w : Nat) : Int).toNat = w by omega, nums_seq]
    refine for_seq [6] (fun k ρ => Stop (∃ d6 d7, ρ = [.dat (bodyD t w B), .dat (.tup (strD w G)), .dat (sgS w s), .dat (.tup (rowD w y)), .dat (.lst (strD w (B j))), .own (seqD k fun k => .int (met B G s j k)), d6, d7, .any])) (stop ⟨d6, d7, rfl⟩) (fun k ρ hk hp' => ?_) (fun ρ hp' => ?_)
    · obtain ⟨d6, d7, e⟩ := hp'.go
      subst e
      rw [show D.int (0 + (k : Nat)) = D.int (k : Nat) by rw [Int.zero_add]]
      have hcm : ∀ z, CMul (s k) z := fun z => .inl (by rcases hs k hk with e | e <;> rw [e] <;> decide)
      have hlen : (seqD k fun k => .int (met B G s j k)).length < 100000 := by rw [seqD_len]; omega
      have hfin : ∀ z : Int, z = met B G s j k → (seqD k fun k => .int (met B G s j k)) ++ [D.int z] = seqD (k + 1) fun k => .int (met B G s j k) := fun z e => by rw [e]; exact seqD_snoc k _
      unfold sgS strD
      by_cases h : 0 < s k
      · walk_at "ev"
        rw [decide_eq_true h]
        walk_at "ev"
        refine ⟨hcm _, _, rfl, hlen, stop ⟨.dat (.int (k : Nat)), .dat (.int (if true = true then 1 else 0)), ?_⟩⟩
        rw [hfin _ (by unfold met endOf; rw [if_pos h, if_pos h])]
        rfl
      · walk_at "ev"
        rw [decide_eq_false h]
        walk_at "ev"
        refine ⟨hcm _, _, rfl, hlen, stop ⟨.dat (.int (k : Nat)), .dat (.int (if false = true then 1 else 0)), ?_⟩⟩
        rw [hfin _ (by unfold met endOf; rw [if_neg h, if_neg h])]
        rfl
    · obtain ⟨d6, d7, e⟩ := hp'.go
      subst e
      refine w_pub (i := 5) rfl ?_
      walk_at "ev"
      refine ⟨by omega, hy, fun k hk => hm j k hj hk, ?_⟩
      walk_at "ev"
      rw [decide_eq_false (by have := num_pos.mpr (hp j hj); omega)]
      walk_at "ev"
      exact stop ⟨_, _, _, _, rfl⟩
  · obtain ⟨d4, d5, d6, d7, e⟩ := hp'.go
    subst e
    walk_at "ev"
    exact p
end
end Cs
set_option Elab.async false
set_option linter.all false
set_option maxRecDepth 100000
set_option maxHeartbeats 8000000
/-! All corners of the shares. -/
namespace Cs
open PySem PySem.Spec PyProof.Rows L2 StX Dl Mx
local macro_rules | `(tactic| walk_at "ev1") => `(tactic| first
  | with_reducible refine w_seq ?_
  | with_reducible refine ite_true' ?_
  | with_reducible refine ite_false' ?_
  | with_reducible refine ite_nt ?_
  | with_reducible refine ite_nf ?_
  | with_reducible refine w_next ?_
  | with_reducible refine w_ret ?_
  | with_reducible refine w_set ?_
  | with_reducible refine w_par ?_
  | with_reducible refine w_par3 ?_
  | with_reducible refine w_drop ?_
  | with_reducible refine w_ifS ?_
  | refine w_var rfl ?_
  | with_reducible refine w_cd (zeroR (by assumption)) ?_
  | with_reducible refine w_cd (oneR (by assumption)) ?_
  | with_reducible refine w_c ?_
  | with_reducible refine w_yes ?_
  | with_reducible refine w_cons ?_
  | with_reducible refine w_star ?_
  | with_reducible refine w_nil ?_
  | with_reducible refine w_tup ?_
  | with_reducible refine w_lst ?_
  | with_reducible refine w_neg ?_
  | with_reducible refine w_if ?_
  | with_reducible refine w_test ?_
  | with_reducible refine w_B ?_
  | with_reducible refine w_not ?_
  | with_reducible refine w_notV ?_
  | with_reducible refine w_and ?_
  | with_reducible refine w_or ?_
  | with_reducible refine w_andV ?_
  | with_reducible refine w_orV ?_
  | with_reducible refine w_op od_I0 ?_
  | with_reducible refine w_op od_I ?_
  | with_reducible refine w_op od_ix ?_
  | with_reducible refine w_op od_ixL ?_
  | with_reducible refine w_op od_ixT ?_
  | with_reducible refine w_op od_eq ?_
  | with_reducible refine w_op od_ne ?_
  | with_reducible refine w_op od_isN ?_
  | with_reducible refine w_op od_notN ?_
  | with_reducible refine w_op od_cat ?_
  | with_reducible refine w_op od_catA ?_
  | with_reducible refine w_op od_rep ?_
  | with_reducible refine w_op od_repN ?_
  | with_reducible refine w_op od_eqD ?_
  | with_reducible refine w_op od_neD ?_
  | with_reducible refine w_op od_in ?_
  | with_reducible refine w_op od_notInD ?_
  | with_reducible refine w_slL ?_
  | with_reducible refine w_slT ?_
  | with_reducible refine w_noPart ?_
  | with_reducible refine w_some ?_
  | with_reducible refine w_call ?_
  | with_reducible refine w_cb ca_len ?_
  | with_reducible refine w_cb ca_len_str ?_
  | with_reducible refine w_cb ca_list ?_
  | with_reducible refine w_cb ca_tuple ?_
  | with_reducible refine w_cb ca_abs ?_
  | with_reducible refine w_cb ca_int ?_
  | with_reducible refine w_cb ca_all ?_
  | with_reducible refine w_cb ca_repr ?_
  | with_reducible refine w_lc ?_
  | with_reducible refine w_lc2 ?_
  | with_reducible refine w_for ?_
  | with_reducible refine w_meth ?_
  | with_reducible refine w_prop ?_
  | with_reducible refine w_mk ?_
  | with_reducible refine w_dc ?_
  | with_reducible refine w_dget2 ?_
  | with_reducible refine w_lstRg ?_
  | with_reducible refine w_cb ca_isi ?_
  | with_reducible refine w_cb ca_isC ?_
  | with_reducible refine w_cb ca_divmod ?_
  | with_reducible refine w_op od_inSign ?_
  | with_reducible refine i_enumA ?_
  | with_reducible refine i_zipTL ?_
  | with_reducible refine i_enumZip ?_
  | with_reducible refine i_zipTT ?_
  | with_reducible refine g_tup ?_
  | refine ⟨_, rfl, rfl, ?_⟩
  | with_reducible refine g_cons ?_
  | with_reducible refine g_name (by decide) ?_
  | with_reducible refine g_nil ?_
  | with_reducible refine w_asg (js := List.range 40) ?_
  | refine ⟨okEq_fr _, okEq_fr _, ?_⟩
  | with_reducible refine i_list ?_
  | with_reducible refine i_tup ?_
  | with_reducible refine i_rng1 ?_
  | with_reducible refine i_rng2 ?_
  | with_reducible refine i_enum ?_
  | with_reducible refine i_zip ?_
  | with_reducible refine i_str ?_
  | refine ⟨Nat.le_of_ble_eq_true rfl, ?_⟩
  | refine ⟨_, rfl, ?_⟩
  | refine ⟨_, _, rfl, ?_⟩
  | refine ⟨_, _, _, rfl, ?_⟩
  | refine ⟨_, _, _, _, rfl, rfl, rfl, ?_⟩
  | refine ⟨_, _, rfl, by decide, ?_⟩
  | refine ⟨_, _, rfl, rfl, ?_⟩
  | refine ⟨_, _, _, rfl, rfl, rfl, ?_⟩
  | refine ⟨_, _, _, rfl, rfl, ?_⟩
  | refine ⟨_, _, _, rfl, rfl, seqD_atI (by first | assumption | omega), ?_⟩
  | refine ⟨_, _, _, _, rfl, ?_⟩
  | refine ⟨_, _, _, _, _, rfl, ?_⟩
  | refine ⟨rfl, ?_⟩
  | refine ⟨by decide +kernel, ?_⟩)
local macro_rules | `(tactic| walk_at "ev") => `(tactic| repeat walk_at "ev1")
local macro_rules | `(tactic| walk_at "wk") => `(tactic| repeat (first | exact True.intro | refine ⟨.inr rfl, ?_⟩ | refine ⟨.inl rfl, ?_⟩))
local macro_rules | `(tactic| walk_at "ev1") => `(tactic| first
  | with_reducible refine w_cb ca_intB ?_)
def cAt (C : List Tri) (i : Nat) : Tri := C.getD i (0, 0, 0)
def triOk (l : Tri) : Prop := l.1.natAbs ≤ 1000 ∧ l.2.1.natAbs ≤ 1000 ∧ l.2.2.natAbs ≤ 1000
/-- a spot among the pairs ahead of (k, j) -/
def seen (C : List Tri) (k j : Nat) : Prop := (∃ k' j', k' < k ∧ j' < k' ∧ spot C (cAt C j') (cAt C k')) ∨ ∃ j', j' < j ∧ spot C (cAt C j') (cAt C k)
def S_law_spots : PS1 := fun ds P => ∃ (t w : Nat) (W : Nat → Nat → Int) (g : Nat → Int), ds = [.int (t : Nat), .lst (wishD t w W g)] ∧ 1 ≤ t ∧ t ≤ 3 ∧ w ≤ 4 ∧ (∀ k j, k < w → j < t → (W k j).natAbs ≤ 100) ∧ (∀ k, k < w → (g k).natAbs ≤ 100) ∧
  ∀ L : List D, L.length ≤ 1000 → (∀ d ∈ L, okN 5 d) → (L ≠ [] ↔ ∃ k j, k < (cuts w t W g).length ∧ j < k ∧ spot (cuts w t W g) (cAt (cuts w t W g) j) (cAt (cuts w t W g) k)) → P (.lst L)
theorem z3_small {t w : Nat} {W : Nat → Nat → Int} (h : ∀ k j, k < w → j < t → (W k j).natAbs ≤ 100) {k j : Nat} (hk : k < w) : (z3 t W k j).natAbs ≤ 100 := by
  unfold z3
  split
  · exact h k j hk (by assumption)
  · decide
theorem cuts_small {t w : Nat} {W : Nat → Nat → Int} {g : Nat → Int} (h : ∀ k j, k < w → j < t → (W k j).natAbs ≤ 100) (hg : ∀ k, k < w → (g k).natAbs ≤ 100) : ∀ l ∈ cuts w t W g, triOk l := by
  intro l hl
  rw [cuts_eq] at hl
  rcases List.mem_append.mp hl with z | z
  · have h2 : ∀ t, ∀ l ∈ cut2 t, triOk l := fun t l hl => by
      unfold cut2 cut1 at hl
      unfold triOk
      rcases List.mem_append.mp hl with y | y
      · rcases List.mem_append.mp y with y | y
        · simp only [List.mem_cons, List.not_mem_nil, or_false] at y
          rcases y with e | e | e <;> subst e <;> decide
        · split at y
          · obtain rfl := List.mem_singleton.mp y; decide
          · exact absurd y List.not_mem_nil
      · split at y
        · obtain rfl := List.mem_singleton.mp y; decide
        · exact absurd y List.not_mem_nil
    exact h2 t l z
  · obtain ⟨k, hk, rfl⟩ := List.mem_map.mp z
    have hk' := List.mem_range.mp hk
    have a0 := z3_small h (j := 0) hk'
    have a1 := z3_small h (j := 1) hk'
    have a2 := z3_small h (j := 2) hk'
    have a3 := hg k hk'
    refine ⟨?_, ?_, ?_⟩
    · show (z3 t W k 0 - z3 t W k 2).natAbs ≤ 1000; omega
    · show (z3 t W k 1 - z3 t W k 2).natAbs ≤ 1000; omega
    · show (g k - z3 t W k 2).natAbs ≤ 1000; omega
theorem cuts_len {t w : Nat} {W : Nat → Nat → Int} {g : Nat → Int} (hw : w ≤ 4) : (cuts w t W g).length ≤ 9 := by
  rw [cuts_eq, List.length_append, List.length_map, List.length_range]
  have : (cut2 t).length ≤ 5 := by
    unfold cut2 cut1
    split <;> split <;> simp
  omega
theorem cAt_get {C : List Tri} {i : Nat} (h : i < C.length) : C[i]? = some (cAt C i) := by
  unfold cAt
  rw [List.getD_eq_getElem?_getD, List.getElem?_eq_getElem h]
  rfl
theorem cAt_mem {C : List Tri} {i : Nat} (h : i < C.length) : cAt C i ∈ C := List.mem_of_getElem? (cAt_get h)
theorem atC {C : List Tri} {i : Nat} (h : i < C.length) : atI (C.map triD) ((i : Nat) : Int) = some (triD (cAt C i)) := atI_nat (by rw [List.getElem?_map, cAt_get h]; rfl)
theorem mul_small {a b : Int} {m n : Nat} (h : a.natAbs ≤ m) (h2 : b.natAbs ≤ n) : (a * b).natAbs ≤ m * n := by
  rw [Int.natAbs_mul]
  exact Nat.mul_le_mul h h2
theorem sub_small {a b : Int} {m n : Nat} (h : a.natAbs ≤ m) (h2 : b.natAbs ≤ n) : (a - b).natAbs ≤ m + n := by omega
theorem cm_of {a b : Int} {m : Nat} (h : a.natAbs ≤ m) (hm : m ≤ 10000000 := by decide) : CMul a b := .inl ⟨by omega, by omega⟩
theorem seen_zero {C : List Tri} : ¬ seen C 0 0 := by
  rintro (⟨k', j', h, _⟩ | ⟨j', h, _⟩)
  · omega
  · omega
theorem seen_next {C : List Tri} {k : Nat} : seen C k k ↔ seen C (k + 1) 0 := by
  constructor
  · rintro (⟨k', j', h1, h2, h3⟩ | ⟨j', h, h3⟩)
    · exact .inl ⟨k', j', by omega, h2, h3⟩
    · exact .inl ⟨k, j', by omega, h, h3⟩
  · rintro (⟨k', j', h1, h2, h3⟩ | ⟨j', h, h3⟩)
    · by_cases e : k' = k
      · subst e; exact .inr ⟨j', h2, h3⟩
      · exact .inl ⟨k', j', by omega, h2, h3⟩
    · omega
theorem seen_succ {C : List Tri} {k j : Nat} : seen C k (j + 1) ↔ seen C k j ∨ spot C (cAt C j) (cAt C k) := by
  constructor
  · rintro (h | ⟨j', h, h3⟩)
    · exact .inl (.inl h)
    · by_cases e : j' = j
      · subst e; exact .inr h3
      · exact .inl (.inr ⟨j', by omega, h3⟩)
  · rintro ((h | ⟨j', h, h3⟩) | h)
    · exact .inl h
    · exact .inr ⟨j', by omega, h3⟩
    · exact .inr ⟨j, by omega, h⟩
theorem seen_all {C : List Tri} : seen C C.length 0 ↔ ∃ k j, k < C.length ∧ j < k ∧ spot C (cAt C j) (cAt C k) := by
  constructor
  · rintro (⟨k', j', h1, h2, h3⟩ | ⟨j', h, h3⟩)
    · exact ⟨k', j', h1, h2, h3⟩
    · omega
  · rintro ⟨k', j', h1, h2, h3⟩
    exact .inl ⟨k', j', h1, h2, h3⟩
structure SInv (C : List Tri) (L : List D) (k j : Nat) : Prop where
  len : L.length ≤ 20 * k + j
  ok : ∀ d ∈ L, okN 5 d
  iff : L ≠ [] ↔ seen C k j
theorem SInv.skip {C : List Tri} {L : List D} {k j : Nat} (h : SInv C L k j) (n : ¬ spot C (cAt C j) (cAt C k)) : SInv C L k (j + 1) :=
  ⟨by have := h.len; omega, h.ok, h.iff.trans ⟨fun z => seen_succ.mpr (.inl z), fun z => (seen_succ.mp z).elim id fun y => absurd y n⟩⟩
theorem SInv.add {C : List Tri} {L : List D} {k j : Nat} {d : D} (h : SInv C L k j) (hs : spot C (cAt C j) (cAt C k)) (hd : okN 5 d) : SInv C (L ++ [d]) k (j + 1) := by
  refine ⟨by have := h.len; rw [List.length_append, List.length_singleton]; omega, fun e he => ?_, ⟨fun _ => seen_succ.mpr (.inr hs), fun _ z => ?_⟩⟩
  · rcases List.mem_append.mp he with z | z
    · exact h.ok e z
    · obtain rfl := List.mem_singleton.mp z; exact hd
  · have := congrArg List.length z
    rw [List.length_append, List.length_singleton] at this
    simp at this
theorem keeps_all {C : List Tri} {p q : Tri} : ((C.map fun l => decide (l.1 * lft p q + l.2.1 * rgt p q ≤ l.2.2 * ((det p q).natAbs : Int))).all id) = true ↔ keepsT C p q := by
  rw [List.all_eq_true]
  constructor
  · intro h l hl
    exact of_decide_eq_true (h _ (List.mem_map.mpr ⟨l, hl, rfl⟩))
  · intro h b hb
    obtain ⟨l, hl, rfl⟩ := List.mem_map.mp hb
    exact decide_eq_true (h l hl)
section
variable {Pr : Program} {w : World} {K : PySem.W.Frag} {mg : Str → Option Value} {base : Heap}
theorem sc_law_spots : FnScope ["_law_tall", "_law_wants_here", "_law_cuts_here", "_law_found", "_law_k", "_law_j", "_law_one", "_law_two", "_law_under", "_law_sign", "_law_left", "_law_right_here", "_law_some", "_law_slit", "_law_each"] ["_law_tall", "_law_wants_here"] (defScope s_law_spots) := ⟨rfl, rfl, rfl, by decide +kernel, rfl, by decide +kernel, by decide +kernel⟩
theorem O_law_spots (T : Tx K mg) (O_law_cuts : OkD Pr w K mg base 1 "_law_cuts" ["_law_tall", "_law_wants_here"] S_law_cuts) (O_law_low : OkD Pr w K mg base 1 "_law_low" ["_law_top", "_law_bottom"] S_law_low) : OkD Pr w K mg base 2 "_law_spots" ["_law_tall", "_law_wants_here"] S_law_spots := by
  refine ok_mk T.f_law_spots sc_law_spots (fun ds P ⟨a, b, c, d, e, _⟩ => by rw [e]; rfl) (fun f cdv A outer s H E hr => ⟨_, 
    (pss_cons (ps_par (i := 2) (j := 3) rfl sc_law_spots.nd rfl rfl (by decide) rfl rfl (pa_cons (pe_ok O_law_cuts (hr.mono (by decide)) (pa_cons (pv 0) (pa_cons (pv 1) pa_nil))) (pa_cons (pe_lst pa_nil) pa_nil)) (by rfl))
      (pss_cons (ps_for PassesOwn.never rfl (pi_range1 rfl T.z_range (pa_cons (pe_callB (kcall_len K) rfl T.z_len PySem.boot_len (pa_cons (pv 2) pa_nil)) pa_nil)) (pg_nameA (i := 4) sc_law_spots.nd) (pss_one (ps_for PassesOwn.never rfl (pi_range1 rfl T.z_range (pa_cons (pv 4) pa_nil)) (pg_nameA (i := 5) sc_law_spots.nd) (pss_cons (ps_par (i := 6) (j := 7) rfl sc_law_spots.nd rfl rfl (by decide) rfl rfl (pa_cons (pe_ix (kix_seq K) (pv 2) (pv 5) (fun _ _ => rfl)) (pa_cons (pe_ix (kix_seq K) (pv 2) (pv 4) (fun _ _ => rfl)) pa_nil)) (by rfl))
      (pss_cons (ps_setA (i := 8) sc_law_spots.nd (pe_op op_sub (pe_op op_mul (pe_ix (kix_seq K) (pv 6) pe_int (fun _ _ => rfl)) (pe_ix (kix_seq K) (pv 7) pe_int (fun _ _ => rfl))) (pe_op op_mul (pe_ix (kix_seq K) (pv 7) pe_int (fun _ _ => rfl)) (pe_ix (kix_seq K) (pv 6) pe_int (fun _ _ => rfl)))))
      (pss_one (ps_if (pt_cmpR op_ne (pv 8) pe_int (nomark _)) (pss_cons (ps_setA (i := 9) sc_law_spots.nd (pe_ifExp (pt_cmpR op_gt (pv 8) pe_int (nomark _)) pe_int (pe_un un_neg pe_int)))
      (pss_cons (ps_setA (i := 10) sc_law_spots.nd (pe_op op_mul (pv 9) (pe_op op_sub (pe_op op_mul (pe_ix (kix_seq K) (pv 6) pe_int (fun _ _ => rfl)) (pe_ix (kix_seq K) (pv 7) pe_int (fun _ _ => rfl))) (pe_op op_mul (pe_ix (kix_seq K) (pv 7) pe_int (fun _ _ => rfl)) (pe_ix (kix_seq K) (pv 6) pe_int (fun _ _ => rfl))))))
      (pss_cons (ps_setA (i := 11) sc_law_spots.nd (pe_op op_mul (pv 9) (pe_op op_sub (pe_op op_mul (pe_ix (kix_seq K) (pv 6) pe_int (fun _ _ => rfl)) (pe_ix (kix_seq K) (pv 7) pe_int (fun _ _ => rfl))) (pe_op op_mul (pe_ix (kix_seq K) (pv 7) pe_int (fun _ _ => rfl)) (pe_ix (kix_seq K) (pv 6) pe_int (fun _ _ => rfl))))))
      (pss_cons (ps_setA (i := 8) sc_law_spots.nd (pe_callB call_abs rfl T.z_abs (by decide +kernel) (pa_cons (pv 8) pa_nil)))
      (pss_one (ps_if (pt_val (pe_callB (kcr_all K) rfl T.z_all (by decide +kernel) (pa_cons (pe_lc (own := [("_law_slit", 13)]) rfl sc_law_spots.nd (kpi_list K (pv 2)) (blkOk_by (by kernel_rfl)) (by intro _ _ _ _ _; exact pg_nameA (i := 13) sc_law_spots.nd) (by intro _ _ _ _ _; exact pts_nil) (by intro _ _ _ _ _; exact (pe_cmpR op_le (pe_op op_add (pe_op op_mul (pe_ix (kix_seq K) (pv 13) pe_int (fun _ _ => rfl)) (pv 10)) (pe_op op_mul (pe_ix (kix_seq K) (pv 13) pe_int (fun _ _ => rfl)) (pv 11))) (pe_op op_mul (pe_ix (kix_seq K) (pv 13) pe_int (fun _ _ => rfl)) (pv 8)) (nomark _)))) pa_nil))) (pss_cons (ps_setA (i := 12) sc_law_spots.nd (pe_tup (pa_cons (pv 10) (pa_cons (pv 11) (pa_cons (pe_op op_sub (pe_op op_sub (pv 8) (pv 10)) (pv 11)) pa_nil)))))
      (pss_one (ps_expr (kpe_append K (pv 3) (pa_cons (pe_slice (ksl_tupA K) (pe_callTy (kcall_tuple K) rfl T.z_tuple (by decide +kernel) (pa_cons (pe_lc (own := [("_law_each", 14)]) rfl sc_law_spots.nd (kpi_tup K (pv 12)) (blkOk_by (by kernel_rfl)) (by intro _ _ _ _ _; exact pg_nameA (i := 14) sc_law_spots.nd) (by intro _ _ _ _ _; exact pts_nil) (by intro _ _ _ _ _; exact (pe_ok O_law_low (hr.mono (by decide)) (pa_cons (pv 14) (pa_cons (pv 8) pa_nil))))) pa_nil)) po_none (po_some (pv 0))) pa_nil))))) pss_nil)))))) pss_nil)))))))
      (pss_one (ps_ret (pv 3))))),
    fun ds P ⟨t, w, W, g, e, h1, h3, hw, hW, hg, p⟩ => ?_⟩) fun _ _ _ _ _ _ us hl => match us, hl with | [_, _], _ => rfl
  subst e
  generalize hwd : wishD t w W g = wd
  have hC := cuts_small hW hg
  have hlen := cuts_len (t := t) (W := W) (g := g) hw
  refine w_seq (w_parOwn (w_call (w_cons (w_var rfl (w_cons (w_var rfl (w_nil ⟨t, w, W, g, by rw [hwd], h1, h3, hw, ?_⟩)))))))
  generalize cuts w t W g = C at hC hlen p
  have hl0 : ((C.map triD).length : Int) = (C.length : Int) := by rw [List.length_map]
  refine w_seq (w_for (i_rng1 (w_cons (w_cb ca_len (w_cons (w_var rfl (w_nil ⟨_, _, rfl, rfl, w_nil ⟨_, rfl, by rw [List.length_map]; omega, ?_⟩⟩)))))))
  rw [hl0, show ((C.length : Nat) : Int).toNat = C.length by omega, nums_seq]
  refine for_seq [4] (fun k ρ => Stop (∃ L d4 d5 d6 d7 d8 d9 d10 d11 d12, ρ = [.dat (.int (t : Nat)), .dat (.lst wd), .dat (.lst (C.map triD)), .own L, d4, d5, d6, d7, d8, d9, d10, d11, d12, .any, .any] ∧ SInv C L k 0))
    (stop ⟨[], .any, .any, .any, .any, .any, .any, .any, .any, .any, rfl, Nat.le_refl _, fun d hd => absurd hd List.not_mem_nil, ⟨fun z => absurd rfl z, fun z => absurd z seen_zero⟩⟩) (fun k ρ hk hp => ?_) (fun ρ hp => ?_)
  · obtain ⟨L, d4, d5, d6, d7, d8, d9, d10, d11, d12, e, hI⟩ := hp.go
    subst e
    rw [show D.int (0 + (k : Nat)) = D.int (k : Nat) by rw [Int.zero_add]]
    refine g_name (by decide) ?_
    refine w_for (i_rng1 (w_cons (w_var rfl (w_nil ⟨_, rfl, ⟨by omega, by omega⟩, ?_⟩))))
    rw [show ((k : Nat) : Int).toNat = k by omega, nums_seq]
    refine for_seq [5] (fun j ρ => Stop (∃ L d5 d6 d7 d8 d9 d10 d11 d12, ρ = [.dat (.int (t : Nat)), .dat (.lst wd), .dat (.lst (C.map triD)), .own L, .dat (.int (k : Nat)), d5, d6, d7, d8, d9, d10, d11, d12, .any, .any] ∧ SInv C L k j))
      (stop ⟨L, d5, d6, d7, d8, d9, d10, d11, d12, rfl, hI⟩) (fun j ρ hj hp => ?_) (fun ρ hp => ?_)
    · obtain ⟨L, d5, d6, d7, d8, d9, d10, d11, d12, e, hI⟩ := hp.go
      subst e
      have hjC : j < C.length := by omega
      rw [show D.int (0 + (j : Nat)) = D.int (j : Nat) by rw [Int.zero_add]]
      refine g_name (by decide) ?_
      refine w_seq (w_par (w_cons (w_op od_ix (w_var rfl (w_var rfl ⟨_, _, _, rfl, rfl, atC hjC, w_cons (w_op od_ix (w_var rfl (w_var rfl ⟨_, _, _, rfl, rfl, atC hk, w_nil ⟨_, _, rfl, ?_⟩⟩)))⟩)))))
      have hpo := hC _ (cAt_mem hjC)
      have hqo := hC _ (cAt_mem hk)
      have hskip := hI.skip
      have hadd := fun {d} => hI.add (d := d)
      generalize cAt C j = p at hpo hskip hadd ⊢
      generalize cAt C k = q at hqo hskip hadd ⊢
      obtain ⟨p1, p2, p3⟩ := hpo
      obtain ⟨q1, q2, q3⟩ := hqo
      refine wS_env [.dat (.int (t : Nat)), .dat (.lst wd), .dat (.lst (C.map triD)), .own L, .dat (.int (k : Nat)), .any, .dat (triD p), .dat (triD q), .any, .any, .any, .any, .any, .any, .any] (by walk_at "wk") ?_
      unfold triD
      refine w_seq (w_set ?_)
      walk_at "ev"
      refine ⟨cm_of p1, ?_⟩
      walk_at "ev"
      refine ⟨cm_of q1, ?_⟩
      walk_at "ev"
      rw [show p.1 * q.2.1 - q.1 * p.2.1 = det p q from rfl]
      by_cases hd : det p q = 0
      · rw [hd, decide_eq_true rfl]
        refine ite_nt ?_
        refine w_next ?_
        exact stop ⟨L, _, _, _, _, _, _, _, _, rfl, hskip fun z => z.1 hd⟩
      rw [decide_eq_false (show ¬ V.int (det p q) = V.int 0 from fun z => by injection z with z; exact hd z)]
      refine ite_nf ?_
      have hdet : (det p q).natAbs ≤ 2000000 := sub_small (mul_small p1 q2) (mul_small q1 p2)
      have hs1 : (sgn (det p q)).natAbs ≤ 1 := by rcases sgn_two (det p q) with e | e <;> rw [e] <;> decide
      have hD0 : 0 < (det p q).natAbs := by omega
      refine wS_env [.dat (.int (t : Nat)), .dat (.lst wd), .dat (.lst (C.map triD)), .own L, .dat (.int (k : Nat)), .any, .dat (triD p), .dat (triD q), .dat (.int (det p q)), .any, .any, .any, .any, .any, .any] (by walk_at "wk") ?_
      refine w_seq (w_set (w_hide (d := .int (sgn (det p q))) ?_ ?_))
      · walk_at "ev"
        unfold sgn
        refine ite_dec (fun h => ?_) (fun h => ?_)
        · rw [if_pos h]
          exact w_c ⟨rfl, rfl⟩
        · rw [if_neg h]
          exact w_neg (w_c ⟨_, rfl, rfl, rfl⟩)
      refine wS_env [.dat (.int (t : Nat)), .dat (.lst wd), .dat (.lst (C.map triD)), .own L, .dat (.int (k : Nat)), .any, .dat (triD p), .dat (triD q), .dat (.int (det p q)), .dat (.int (sgn (det p q))), .any, .any, .any, .any, .any] (by walk_at "wk") ?_
      unfold triD
      refine w_seq (w_set ?_)
      walk_at "ev"
      refine ⟨cm_of p3, ?_⟩
      walk_at "ev"
      refine ⟨cm_of q3, ?_⟩
      walk_at "ev"
      refine ⟨cm_of hs1, ?_⟩
      walk_at "ev"
      refine ⟨cm_of p1, ?_⟩
      walk_at "ev"
      refine ⟨cm_of q1, ?_⟩
      walk_at "ev"
      refine ⟨cm_of hs1, ?_⟩
      refine wS_env [.dat (.int (t : Nat)), .dat (.lst wd), .dat (.lst (C.map triD)), .own L, .dat (.int (k : Nat)), .any, .any, .any, .dat (.int (det p q)), .any, .dat (.int (lft p q)), .dat (.int (rgt p q)), .any, .any, .any] (by walk_at "wk") ?_
      walk_at "ev"
      refine lcd_map (fun l => D.bl (decide (l.1 * lft p q + l.2.1 * rgt p q ≤ l.2.2 * ((det p q).natAbs : Int)))) (by omega) rfl (fun l hl => ?_) ?_
      · obtain ⟨l1, l2, l3⟩ := hC l hl
        unfold triD
        walk_at "ev"
        refine ⟨cm_of l1, ?_⟩
        walk_at "ev"
        refine ⟨cm_of l2, ?_⟩
        walk_at "ev"
        refine ⟨cm_of l3, ?_⟩
        walk_at "ev"
        rfl
      refine w_nil ⟨C.map fun l => decide (l.1 * lft p q + l.2.1 * rgt p q ≤ l.2.2 * ((det p q).natAbs : Int)), by rw [List.map_map]; rfl, ?_⟩
      by_cases hkp : keepsT C p q
      · rw [keeps_all.mpr hkp]
        walk_at "ev"
        refine w_appE rfl ?_
        walk_at "ev"
        refine lcd_map (L := [lft p q, rgt p q, ((det p q).natAbs : Int) - lft p q - rgt p q]) (f := D.int) (fun i => fr (mkRat i (det p q).natAbs)) (show 3 ≤ 100000 by decide) rfl (fun i _ => ?_) ?_
        · walk_at "ev"
          refine ⟨hD0, Nat.lt_of_le_of_lt hdet (Nat.lt_of_lt_of_le (show 2000000 < 2 ^ 21 by decide) (two_pow_le (by decide))), rfl, rfl⟩
        walk_at "ev"
        have hm : ∀ d ∈ Dl.cutD ([lft p q, rgt p q, ((det p q).natAbs : Int) - lft p q - rgt p q].map fun i => fr (mkRat i (det p q).natAbs)) none (some ((t : Nat) : Int)), okN 4 d := fun d hd => by
          unfold Dl.cutD at hd
          obtain ⟨i, _, rfl⟩ := List.mem_map.mp (List.mem_of_mem_drop (List.mem_of_mem_take hd))
          exact (okN_fr _).mono (by decide)
        have hL := hI.len
        refine ⟨by omega, stop ⟨_, _, _, _, _, _, _, _, _, rfl, hadd ⟨hd, hkp⟩ (okN_tup hm)⟩⟩
      · rw [Bool.eq_false_iff.mpr fun z => hkp (keeps_all.mp z)]
        refine ⟨_, rfl, ite_false' ?_⟩
        refine w_next ?_
        exact stop ⟨L, _, _, _, _, _, _, _, _, rfl, hskip fun z => hkp z.2⟩
    · obtain ⟨L, d5, d6, d7, d8, d9, d10, d11, d12, e, hI⟩ := hp.go
      subst e
      exact stop ⟨L, _, _, _, _, _, _, _, _, _, rfl, by have := hI.len; omega, hI.ok, hI.iff.trans seen_next⟩
  · obtain ⟨L, d4, d5, d6, d7, d8, d9, d10, d11, d12, e, hI⟩ := hp.go
    subst e
    exact w_ret (w_pubE (i := 3) rfl (w_var rfl (p L (by have := hI.len; omega) hI.ok (hI.iff.trans seen_all))))
end
end Cs
set_option Elab.async false
set_option linter.all false
set_option maxRecDepth 100000
set_option maxHeartbeats 4200000
/-! The own table; what stands behind a case. -/
namespace Cs
open PySem PySem.Spec PyProof.Rows L2 StX Dl Mx
local macro_rules | `(tactic| walk_at "ev1") => `(tactic| first
  | with_reducible refine w_seq ?_
  | with_reducible refine ite_true' ?_
  | with_reducible refine ite_false' ?_
  | with_reducible refine ite_nt ?_
  | with_reducible refine ite_nf ?_
  | with_reducible refine w_next ?_
  | with_reducible refine w_ret ?_
  | with_reducible refine w_set ?_
  | with_reducible refine w_par ?_
  | with_reducible refine w_par3 ?_
  | with_reducible refine w_drop ?_
  | with_reducible refine w_ifS ?_
  | refine w_var rfl ?_
  | with_reducible refine w_cd (zeroR (by assumption)) ?_
  | with_reducible refine w_cd (oneR (by assumption)) ?_
  | with_reducible refine w_c ?_
  | with_reducible refine w_yes ?_
  | with_reducible refine w_cons ?_
  | with_reducible refine w_star ?_
  | with_reducible refine w_nil ?_
  | with_reducible refine w_tup ?_
  | with_reducible refine w_lst ?_
  | with_reducible refine w_neg ?_
  | with_reducible refine w_if ?_
  | with_reducible refine w_test ?_
  | with_reducible refine w_B ?_
  | with_reducible refine w_not ?_
  | with_reducible refine w_notV ?_
  | with_reducible refine w_and ?_
  | with_reducible refine w_or ?_
  | with_reducible refine w_andV ?_
  | with_reducible refine w_orV ?_
  | with_reducible refine w_op od_I0 ?_
  | with_reducible refine w_op od_I ?_
  | with_reducible refine w_op od_ix ?_
  | with_reducible refine w_op od_ixL ?_
  | with_reducible refine w_op od_ixT ?_
  | with_reducible refine w_op od_eq ?_
  | with_reducible refine w_op od_ne ?_
  | with_reducible refine w_op od_isN ?_
  | with_reducible refine w_op od_notN ?_
  | with_reducible refine w_op od_cat ?_
  | with_reducible refine w_op od_catA ?_
  | with_reducible refine w_op od_rep ?_
  | with_reducible refine w_op od_repN ?_
  | with_reducible refine w_op od_eqD ?_
  | with_reducible refine w_op od_neD ?_
  | with_reducible refine w_op od_in ?_
  | with_reducible refine w_op od_notInD ?_
  | with_reducible refine w_slL ?_
  | with_reducible refine w_slT ?_
  | with_reducible refine w_noPart ?_
  | with_reducible refine w_some ?_
  | with_reducible refine w_call ?_
  | with_reducible refine w_cb ca_len ?_
  | with_reducible refine w_cb ca_len_str ?_
  | with_reducible refine w_cb ca_list ?_
  | with_reducible refine w_cb ca_tuple ?_
  | with_reducible refine w_cb ca_abs ?_
  | with_reducible refine w_cb ca_int ?_
  | with_reducible refine w_cb ca_all ?_
  | with_reducible refine w_cb ca_repr ?_
  | with_reducible refine w_lc ?_
  | with_reducible refine w_lc2 ?_
  | with_reducible refine w_for ?_
  | with_reducible refine w_meth ?_
  | with_reducible refine w_prop ?_
  | with_reducible refine w_mk ?_
  | with_reducible refine w_dc ?_
  | with_reducible refine w_dget2 ?_
  | with_reducible refine w_lstRg ?_
  | with_reducible refine w_cb ca_isi ?_
  | with_reducible refine w_cb ca_isC ?_
  | with_reducible refine w_cb ca_divmod ?_
  | with_reducible refine w_op od_inSign ?_
  | with_reducible refine i_enumA ?_
  | with_reducible refine i_zipTL ?_
  | with_reducible refine i_enumZip ?_
  | with_reducible refine i_zipTT ?_
  | with_reducible refine g_tup ?_
  | refine ⟨_, rfl, rfl, ?_⟩
  | with_reducible refine g_cons ?_
  | with_reducible refine g_name (by decide) ?_
  | with_reducible refine g_nil ?_
  | with_reducible refine w_asg (js := List.range 40) ?_
  | refine ⟨okEq_fr _, okEq_fr _, ?_⟩
  | with_reducible refine i_list ?_
  | with_reducible refine i_tup ?_
  | with_reducible refine i_rng1 ?_
  | with_reducible refine i_rng2 ?_
  | with_reducible refine i_enum ?_
  | with_reducible refine i_zip ?_
  | with_reducible refine i_str ?_
  | refine ⟨Nat.le_of_ble_eq_true rfl, ?_⟩
  | refine ⟨_, rfl, ?_⟩
  | refine ⟨_, _, rfl, ?_⟩
  | refine ⟨_, _, _, rfl, ?_⟩
  | refine ⟨_, _, _, _, rfl, rfl, rfl, ?_⟩
  | refine ⟨_, _, rfl, by decide, ?_⟩
  | refine ⟨_, _, rfl, rfl, ?_⟩
  | refine ⟨_, _, _, rfl, rfl, rfl, ?_⟩
  | refine ⟨_, _, _, rfl, rfl, ?_⟩
  | refine ⟨_, _, _, rfl, rfl, seqD_atI (by first | assumption | omega), ?_⟩
  | refine ⟨_, _, _, _, rfl, ?_⟩
  | refine ⟨_, _, _, _, _, rfl, ?_⟩
  | refine ⟨rfl, ?_⟩
  | refine ⟨by decide +kernel, ?_⟩)
local macro_rules | `(tactic| walk_at "ev") => `(tactic| repeat walk_at "ev1")
local macro_rules | `(tactic| walk_at "wk") => `(tactic| repeat (first | exact True.intro | refine ⟨.inr rfl, ?_⟩ | refine ⟨.inl rfl, ?_⟩))
/-! ### mathematics -/
section
variable {t w : Nat} {hd nm : Nat → Str} {B : Bd} {G : Tg} {r : List Int}
theorem mix_iff : p1 (w + 2) t (cA w B r) (cb w G r) 0 = 0 ↔ ∃ x, Mix w t (Wd B (sv r)) (gd G (sv r)) x := by
  constructor
  · intro h
    exact ⟨_, mix_fits.mp (sol_fits h)⟩
  · rintro ⟨x, hx⟩
    by_cases h : p1 (w + 2) t (cA w B r) (cb w G r) 0 = 0
    · exact h
    · exact (Bars.no (sol_bars h) (mix_fits.mpr hx)).elim
theorem cAt_eq {C : List Tri} {i : Nat} (h : i < C.length) : cAt C i = C[i] := by
  unfold cAt
  rw [List.getD_eq_getElem?_getD, List.getElem?_eq_getElem h]
  rfl
theorem spots_iff (h1 : 1 ≤ t) (h3 : t ≤ 3) : p1 (w + 2) t (cA w B r) (cb w G r) 0 = 0 ↔ ∃ k j, k < (cuts w t (Wd B (sv r)) (gd G (sv r))).length ∧ j < k ∧ spot (cuts w t (Wd B (sv r)) (gd G (sv r))) (cAt (cuts w t (Wd B (sv r)) (gd G (sv r))) j) (cAt (cuts w t (Wd B (sv r)) (gd G (sv r))) k) := by
  rw [mix_iff, mix_cuts h1 h3, spot_iff cuts0 cuts1]
  constructor
  · rintro ⟨k, j, hk, hj, h⟩
    refine ⟨k, j, hk, hj, ?_⟩
    rw [cAt_eq hk, cAt_eq (show j < _ by omega)]
    exact h
  · rintro ⟨k, j, hk, hj, h⟩
    refine ⟨k, j, hk, hj, ?_⟩
    rw [cAt_eq hk, cAt_eq (show j < _ by omega)] at h
    exact h
theorem told_sz {f : Fr} {c : Nat} : ∀ {k : Nat}, (∀ i, i < k → sz 400 (f.B i 0)) → sz 400 (told f c k)
  | 0, _ => sz_zero (by decide)
  | k + 1, h => by
    show sz 400 (if f.β k = c then f.B k 0 else told f c k)
    split
    · exact h k (by omega)
    · exact told_sz fun i hi => h i (by omega)
theorem pnt_sz {m n : Nat} {A : Nat → Nat → Int} {b : Nat → Int} (S : Small m n A b) (h : p1 m n A b 0 = 0) (j : Nat) : sz 400 (pnt m n A b j) := told_sz fun i hi => Good.szs (f2_flat h).good S hi
theorem wts_sz {m n : Nat} {A : Nat → Nat → Int} {b : Nat → Int} (S : Small m n A b) (j : Nat) : sz 400 (wts m n A b j) := by
  have h := way_sz S (f1_good (A := A) (b := b) (m := m) (n := n)).1.tab (ci := cI m n) cI_two (Nat.le_refl m) (1 + n + j)
  rw [cI_c1] at h
  exact sz.mono h (by decide)
theorem bad_off : bad t w B G r = false ↔ p1 (w + 2) t (cA w B r) (cb w G r) 0 = 0 := by
  unfold bad
  by_cases h : p1 (w + 2) t (cA w B r) (cb w G r) 0 = 0
  · rw [decide_eq_true h]; exact ⟨fun _ => h, fun _ => rfl⟩
  · rw [decide_eq_false h]; exact ⟨fun z => (nomatch z), fun z => absurd z h⟩
theorem bl_good (h : p1 (w + 2) t (cA w B r) (cb w G r) 0 = 0) : blD t w B G r = .tup (rowD t (pnt (w + 2) t (cA w B r) (cb w G r))) := by
  unfold blD mixD
  rw [if_pos h]
theorem bl_bad (h : ¬ p1 (w + 2) t (cA w B r) (cb w G r) 0 = 0) : blD t w B G r = .non := by
  unfold blD mixD
  rw [if_neg h]
theorem bl_ok : okN 2 (blD t w B G r) := by
  by_cases h : p1 (w + 2) t (cA w B r) (cb w G r) 0 = 0
  · rw [bl_good h]
    exact okN_seqT fun i _ => okN_fr _
  · rw [bl_bad h]
    exact okN_non.mono (by decide)
theorem sg_ok (r : List Int) : okN 1 (sgD r) := okN_mapT fun i _ => okN_int i
/-- the signs that are barred -/
noncomputable def missing (t w : Nat) (B : Bd) (G : Tg) (i : Nat) : List (List Int) := ((marks w).take i).filter (bad t w B G)
theorem missing_succ {i : Nat} (h : (marks w)[i]? = some r) : missing t w B G (i + 1) = if bad t w B G r = true then missing t w B G i ++ [r] else missing t w B G i := by
  unfold missing
  rw [List.take_add_one, h,
      List.filter_append]
  show _ ++ List.filter _ [r] = _
  rw [List.filter_cons]
  split
  · rfl
  · exact List.append_nil _
theorem missing_len (i : Nat) : (missing t w B G i).length ≤ 2 ^ w := by
  unfold missing
  refine Nat.le_trans (List.length_filter_le _ _) ?_
  rw [List.length_take, marks_len]
  omega
noncomputable def missAll (t w : Nat) (B : Bd) (G : Tg) : List (List Int) := (marks w).filter (bad t w B G)
theorem missing_all : missing t w B G (marks w).length = missAll t w B G := by
  unfold missing missAll
  rw [List.take_length]
theorem bar_cases : (missAll t w B G = [] ∧ barD t w B G = .non) ∨ ∃ r, r ∈ missAll t w B G ∧ r ∈ marks w ∧ ¬ p1 (w + 2) t (cA w B r) (cb w G r) 0 = 0 ∧ barD t w B G = .tup [sgD r, .tup (rowD w (wts (w + 2) t (cA w B r) (cb w G r)))] := by
  unfold barD missAll
  cases h : (marks w).find? (bad t w B G) with
  | none =>
    refine .inl ⟨?_, rfl⟩
    rw [List.filter_eq_nil_iff]
    exact List.find?_eq_none.mp h
  | some r =>
    have h1 := List.mem_of_find?_eq_some h
    have h2 := List.find?_some h
    refine .inr ⟨r, List.mem_filter.mpr ⟨h1, h2⟩, h1, fun z => ?_, rfl⟩
    rw [bad_off.mpr z] at h2
    exact nomatch h2
/-- the loads bar: a row's sum -/
theorem met_eq (hr : r ∈ marks w) {j k : Nat} (hk : k < w) : met B G (sv r) j k = Wd B (sv r) k j - gd G (sv r) k := by
  unfold met Wd gd endOf
  rcases sv_two hr hk with e | e <;> rw [e] <;> simp <;> omega
theorem bar_sum (hr : r ∈ marks w) (h : ¬ p1 (w + 2) t (cA w B r) (cb w G r) 0 = 0) : (∀ k, k < w → 0 ≤ wts (w + 2) t (cA w B r) (cb w G r) k) ∧ ∀ j, j < t → 0 < sumTo w (fun k => wts (w + 2) t (cA w B r) (cb w G r) k * (met B G (sv r) j k : Rat)) := by
  obtain ⟨h1, h2⟩ := mix_bars (sol_bars h)
  refine ⟨h1, fun j hj => ?_⟩
  have h3 := h2 j hj
  have e : sumTo w (fun k => wts (w + 2) t (cA w B r) (cb w G r) k * (met B G (sv r) j k : Rat)) = sumTo w (fun k => wts (w + 2) t (cA w B r) (cb w G r) k * ((Wd B (sv r) k j : Rat) - (gd G (sv r) k : Rat))) := sumTo_congr fun k hk => by rw [met_eq hr hk, Rat.intCast_sub]
  rw [e]
  exact h3
theorem end_small {x : Int × Int} {s : Int} (h : StOk 14 x) : (endOf x s).natAbs ≤ 14 := by
  obtain ⟨a, b, c⟩ := h
  unfold endOf
  split <;> omega
theorem met_small (hT : TabOk t w hd nm B) (hG : AimOk w G) (hr : r ∈ marks w) {j k : Nat} (hj : j < t) (hk : k < w) : (met B G (sv r) j k).natAbs ≤ 1000 := by
  unfold met
  have h1 := end_small (s := sv r k) (hT.B j k hj hk)
  have h2 := end_small (s := sv r k) (hG k hk)
  have h3 : (sv r k).natAbs ≤ 1 := by rcases sv_two hr hk with e | e <;> rw [e] <;> decide
  exact Nat.le_trans (mul_small h3 (sub_small h1 h2)) (by decide)
theorem Wd_small (hT : TabOk t w hd nm B) {j k : Nat} (hj : j < t) (hk : k < w) : (Wd B (sv r) k j).natAbs ≤ 14 := by
  obtain ⟨a, b, c⟩ := hT.B j k hj hk
  unfold Wd
  split <;> omega
theorem gd_small (hG : AimOk w G) {k : Nat} (hk : k < w) : (gd G (sv r) k).natAbs ≤ 14 := by
  obtain ⟨a, b, c⟩ := hG k hk
  unfold gd
  split <;> omega
end
/-! ### the own table -/
def tabN : List Str := ["ash", "bay", "elm", "fig", "oak", "yew"]
def nmT (i : Nat) : Str := tabN.getD i ""
theorem nmT_get {i : Nat} (h : i < 6) : tabN[i]? = some (nmT i) := by
  unfold nmT
  rw [List.getD_eq_getElem?_getD, List.getElem?_eq_getElem h]
  rfl
theorem nmT_ok {t : Nat} (h : t ≤ 6) : namesOk t nmT := by
  have h1 : ∀ x ∈ tabN, (1 ≤ x.length ∧ x.length ≤ 8) ∧ (x.cps.toList.all fun c => decide (c ∈ letters.cps.toList)) = true := by decide +kernel
  refine ⟨fun i hi => ?_, fun i j hij hj e => ?_⟩
  · obtain ⟨⟨a, b⟩, c⟩ := h1 (nmT i) (List.mem_of_getElem? (nmT_get (by omega)))
    exact ⟨a, b, fun c' hc => of_decide_eq_true (List.all_eq_true.mp c c' hc)⟩
  · have hn : tabN.Nodup := by decide +kernel
    have hi6 : i < tabN.length := show i < 6 by omega
    have hj6 : j < tabN.length := show j < 6 by omega
    have h2 := List.pairwise_iff_getElem.mp hn i j hi6 hj6 hij
    have e1 := nmT_get (i := i) (by omega)
    have e2 := nmT_get (i := j) (by omega)
    rw [List.getElem?_eq_getElem hi6] at e1
    rw [List.getElem?_eq_getElem hj6] at e2
    exact h2 ((Option.some.inj e1).trans (e.symm.trans (Option.some.inj e2).symm))
theorem DrOk.st {x : Int × Int} (h : DrOk x) : StOk 14 x := ⟨by have := h.1; omega, h.2.1, by have := h.2.2; omega⟩
theorem tab_ok {t w : Nat} {hd : Nat → Str} {B : Bd} (h1 : 1 ≤ t) (h6 : t ≤ 6) (w1 : 1 ≤ w) (w3 : w ≤ 3) (hh : namesOk w hd) (hB : ∀ i k, i < t → k < w → DrOk (B i k)) : TabOk t w hd nmT B := ⟨h1, h6, w1, w3, hh, nmT_ok h6, fun i k hi hk => (hB i k hi hk).st⟩
def S_law_table : PS1 := fun ds P => ∃ (t w : Nat) (hd : Nat → Str) (B : Bd), ds = [.tup (headsD w hd), bodyD t w B] ∧ TabOk t w hd nmT B ∧ P (tabD t w hd nmT B)
section
variable {Pr : Program} {w : World} {K : PySem.W.Frag} {mg : Str → Option Value} {base : Heap}
theorem sc_law_table : FnScope ["_law_heads_here", "_law_body_here", "_law_names", "_law_k"] ["_law_heads_here", "_law_body_here"] (defScope s_law_table) := ⟨rfl, rfl, rfl, by decide +kernel, rfl, by decide +kernel, by decide +kernel⟩
theorem O_law_table (T : Tx K mg) (O_Table_init : OkI Pr w K mg base 7 CTable ["self", "columns", "rows"] (spJ K CTable ["heads", "lines"] S_Table)) : OkD Pr w K mg base 9 "_law_table" ["_law_heads_here", "_law_body_here"] S_law_table := by
  refine ok_mk T.f_law_table sc_law_table (fun ds P ⟨a, b, c, d, e, _⟩ => by rw [e]; rfl) (fun f cdv A outer s H E hr => ⟨_, 
    (pss_cons (ps_setA (i := 2) sc_law_table.nd (pe_lst (pa_cons pe_str (pa_cons pe_str (pa_cons pe_str (pa_cons pe_str (pa_cons pe_str (pa_cons pe_str pa_nil))))))))
      (pss_one (ps_ret (pe_mkD T.g_Table O_Table_init (hr.mono (by decide)) (pa_cons (pv 0) (pa_cons (pe_callTy (kcall_tuple K) rfl T.z_tuple (by decide +kernel) (pa_cons (pe_lc (own := [("_law_k", 3)]) rfl sc_law_table.nd (pi_range1 rfl T.z_range (pa_cons (pe_callB (kcall_len K) rfl T.z_len PySem.boot_len (pa_cons (pv 1) pa_nil)) pa_nil)) (blkOk_by (by kernel_rfl)) (by intro _ _ _ _ _; exact pg_nameA (i := 3) sc_law_table.nd) (by intro _ _ _ _ _; exact pts_nil) (by intro _ _ _ _ _; exact (pe_tup (pa_cons (pe_ix (kix_seq K) (pv 2) (pv 3) (fun _ _ => rfl)) (pa_cons (pe_callTy (kcall_tuple K) rfl T.z_tuple (by decide +kernel) (pa_cons (pe_ix (kix_seq K) (pv 1) (pv 3) (fun _ _ => rfl)) pa_nil)) pa_nil))))) pa_nil)) pa_nil)))))),
    fun ds P ⟨t, w, hd, B, e, hT, p⟩ => ?_⟩) fun _ _ _ _ _ _ us hl => match us, hl with | [_, _], _ => rfl
  subst e
  have ht := hT.t8
  refine w_seq (w_set (w_hide (d := .lst (tabN.map D.str)) ?_ ?_))
  · walk_at "ev"
    rfl
  have hl : (seqD t fun i => D.lst (strD w (B i))).length = t := by rw [seqD_len]
  refine w_ret (w_mkJ (w_cons (w_var rfl (w_cons (w_cb ca_tuple (w_cons (w_lc (i_rng1 (w_cons (w_cb ca_len (w_cons (w_var rfl (w_nil ⟨_, _, rfl, rfl, w_nil ⟨_, rfl, by rw [hl]; omega, ?_⟩⟩)))))))))))))
  rw [hl, show ((t : Nat) : Int).toNat = t by omega, nums_seq]
  refine lcd_seq (fun i => .tup [.str (nmT i), .tup (strD w (B i))]) (by omega) rfl (fun i hi => ?_) ?_
  · rw [show D.int (0 + (i : Nat)) = D.int (i : Nat) by rw [Int.zero_add]]
    refine g_name (by decide) (w_yes ⟨rfl, w_tup (w_cons (w_op od_ix (w_var rfl (w_var rfl ⟨_, _, _, rfl, rfl, atI_nat (show (tabN.map D.str)[i]? = some (.str (nmT i)) by rw [List.getElem?_map, nmT_get (by omega)]; rfl), w_cons (w_cb ca_tuple (w_cons (w_op od_ix (w_var rfl (w_var rfl ⟨_, _, _, rfl, rfl, seqD_atI hi, w_nil ⟨_, _, rfl, rfl, w_nil ⟨show 2 ≤ 100000 by decide, rfl, rfl⟩⟩⟩)))))⟩))))⟩)
  refine w_nil ⟨_, _, rfl, rfl, w_nil ⟨rfl, ⟨t, w, hd, nmT, B, rfl, hT⟩, p⟩⟩
end
end Cs
set_option Elab.async false
set_option linter.all false
set_option maxRecDepth 100000
set_option maxHeartbeats 8000000
/-! A case. -/
namespace Cs
open PySem PySem.Spec PyProof.Rows L2 StX Dl Mx
local macro_rules | `(tactic| walk_at "ev1") => `(tactic| first
  | with_reducible refine w_seq ?_
  | with_reducible refine ite_true' ?_
  | with_reducible refine ite_false' ?_
  | with_reducible refine ite_nt ?_
  | with_reducible refine ite_nf ?_
  | with_reducible refine w_next ?_
  | with_reducible refine w_ret ?_
  | with_reducible refine w_set ?_
  | with_reducible refine w_par ?_
  | with_reducible refine w_par3 ?_
  | with_reducible refine w_drop ?_
  | with_reducible refine w_ifS ?_
  | refine w_var rfl ?_
  | with_reducible refine w_cd (zeroR (by assumption)) ?_
  | with_reducible refine w_cd (oneR (by assumption)) ?_
  | with_reducible refine w_c ?_
  | with_reducible refine w_yes ?_
  | with_reducible refine w_cons ?_
  | with_reducible refine w_star ?_
  | with_reducible refine w_nil ?_
  | with_reducible refine w_tup ?_
  | with_reducible refine w_lst ?_
  | with_reducible refine w_neg ?_
  | with_reducible refine w_if ?_
  | with_reducible refine w_test ?_
  | with_reducible refine w_B ?_
  | with_reducible refine w_not ?_
  | with_reducible refine w_notV ?_
  | with_reducible refine w_and ?_
  | with_reducible refine w_or ?_
  | with_reducible refine w_andV ?_
  | with_reducible refine w_orV ?_
  | with_reducible refine w_op od_I0 ?_
  | with_reducible refine w_op od_I ?_
  | with_reducible refine w_op od_ix ?_
  | with_reducible refine w_op od_ixL ?_
  | with_reducible refine w_op od_ixT ?_
  | with_reducible refine w_op od_eq ?_
  | with_reducible refine w_op od_ne ?_
  | with_reducible refine w_op od_isN ?_
  | with_reducible refine w_op od_notN ?_
  | with_reducible refine w_op od_cat ?_
  | with_reducible refine w_op od_catA ?_
  | with_reducible refine w_op od_rep ?_
  | with_reducible refine w_op od_repN ?_
  | with_reducible refine w_op od_eqD ?_
  | with_reducible refine w_op od_neD ?_
  | with_reducible refine w_op od_in ?_
  | with_reducible refine w_op od_notInD ?_
  | with_reducible refine w_slL ?_
  | with_reducible refine w_slT ?_
  | with_reducible refine w_noPart ?_
  | with_reducible refine w_some ?_
  | with_reducible refine w_call ?_
  | with_reducible refine w_cb ca_len ?_
  | with_reducible refine w_cb ca_len_str ?_
  | with_reducible refine w_cb ca_list ?_
  | with_reducible refine w_cb ca_tuple ?_
  | with_reducible refine w_cb ca_abs ?_
  | with_reducible refine w_cb ca_int ?_
  | with_reducible refine w_cb ca_all ?_
  | with_reducible refine w_cb ca_repr ?_
  | with_reducible refine w_lc ?_
  | with_reducible refine w_lc2 ?_
  | with_reducible refine w_for ?_
  | with_reducible refine w_meth ?_
  | with_reducible refine w_prop ?_
  | with_reducible refine w_mk ?_
  | with_reducible refine w_dc ?_
  | with_reducible refine w_dget2 ?_
  | with_reducible refine w_lstRg ?_
  | with_reducible refine w_cb ca_isi ?_
  | with_reducible refine w_cb ca_isC ?_
  | with_reducible refine w_cb ca_divmod ?_
  | with_reducible refine w_op od_inSign ?_
  | with_reducible refine i_enumA ?_
  | with_reducible refine i_zipTL ?_
  | with_reducible refine i_enumZip ?_
  | with_reducible refine i_zipTT ?_
  | with_reducible refine g_tup ?_
  | refine ⟨_, rfl, rfl, ?_⟩
  | with_reducible refine g_cons ?_
  | with_reducible refine g_name (by decide) ?_
  | with_reducible refine g_nil ?_
  | with_reducible refine w_asg (js := List.range 40) ?_
  | refine ⟨okEq_fr _, okEq_fr _, ?_⟩
  | with_reducible refine i_list ?_
  | with_reducible refine i_tup ?_
  | with_reducible refine i_rng1 ?_
  | with_reducible refine i_rng2 ?_
  | with_reducible refine i_enum ?_
  | with_reducible refine i_zip ?_
  | with_reducible refine i_str ?_
  | refine ⟨Nat.le_of_ble_eq_true rfl, ?_⟩
  | refine ⟨_, rfl, ?_⟩
  | refine ⟨_, _, rfl, ?_⟩
  | refine ⟨_, _, _, rfl, ?_⟩
  | refine ⟨_, _, _, _, rfl, rfl, rfl, ?_⟩
  | refine ⟨_, _, rfl, by decide, ?_⟩
  | refine ⟨_, _, rfl, rfl, ?_⟩
  | refine ⟨_, _, _, rfl, rfl, rfl, ?_⟩
  | refine ⟨_, _, _, rfl, rfl, ?_⟩
  | refine ⟨_, _, _, rfl, rfl, seqD_atI (by first | assumption | omega), ?_⟩
  | refine ⟨_, _, _, _, rfl, ?_⟩
  | refine ⟨_, _, _, _, _, rfl, ?_⟩
  | refine ⟨rfl, ?_⟩
  | refine ⟨by decide +kernel, ?_⟩)
local macro_rules | `(tactic| walk_at "ev") => `(tactic| repeat walk_at "ev1")
local macro_rules | `(tactic| walk_at "wk") => `(tactic| repeat (first | exact True.intro | refine ⟨.inr rfl, ?_⟩ | refine ⟨.inl rfl, ?_⟩))
local macro_rules | `(tactic| walk_at "ev1") => `(tactic| first
  | refine w_appE rfl ?_
  | with_reducible refine w_cb ca_intB ?_)
theorem pyL_map : ∀ L : List D, pyL L = L.map py
  | [] => by simp only [pyL, List.map_nil]
  | d :: L => by simp only [pyL, List.map_cons]; rw [pyL_map L]
theorem any_in {k : Nat} {d : D} {L : List D} (h : d ∈ L) (ok : okN k d) : ((pyL L).any fun z => PyData.eqv z (py d)) = true := by
  rw [pyL_map, List.any_eq_true]
  exact ⟨py d, List.mem_map.mpr ⟨d, h, rfl⟩, ok.self⟩
def S_case_right : PS1 := fun ds P => ∃ (t w : Nat) (hd nm : Nat → Str) (B : Bd) (G : Tg) (sm : Bool), ds = [tabD t w hd nm B, bodyD t w B, .tup (strD w G), .bl sm] ∧ TabOk t w hd nm B ∧ AimOk w G ∧ (sm = true → t ≤ 3) ∧ P (.bl true)
section
variable {Pr : Program} {w : World} {K : PySem.W.Frag} {mg : Str → Option Value} {base : Heap}
theorem sc_law_case_right : FnScope ["_law_mine", "_law_body_here", "_law_aim_here", "_law_is_small", "_law_tall", "_law_missing", "_law_marks_here", "_law_blend", "_law_wants_here", "_law_told", "_law_loads_here", "_law_each", "_law_numbers", "_law_k", "_law_goal"] ["_law_mine", "_law_body_here", "_law_aim_here", "_law_is_small"] (defScope s_law_case_right) := ⟨rfl, rfl, rfl, by decide +kernel, rfl, by decide +kernel, by decide +kernel⟩
theorem O_law_case_right (T : Tx K mg) (O_law_marks : OkD Pr w K mg base 1 "_law_marks" ["_law_wide"] S_marks) (O_corner : OkD Pr w K mg base 4 "corner" ["table", "signs"] S_corner)
    (O_corner_mix : OkD Pr w K mg base 9 "corner_mix" ["table", "target", "signs"] S_corner_mix) (KO_corner_mix : OkK Pr w K mg base 9 "corner_mix" ["table", "target", "signs"] ["signs", "target", "table"] (spD K S_corner_mix)) (KO_barring : OkK Pr w K mg base 11 "barring" ["table", "target"] ["target", "table"] (spD K S_barring_of))
    (O_law_bars : OkD Pr w K mg base 4 "_law_bars" ["_law_body_here", "_law_aim_here", "_law_marks_here", "_law_loads_here"] S_law_bars) (O_law_wants : OkD Pr w K mg base 2 "_law_wants" ["_law_body_here", "_law_aim_here", "_law_marks_here"] S_law_wants) (O_is_served : OkD Pr w K mg base 11 "is_served" ["table", "target"] S_is_served)
    (O_law_sum : OkD Pr w K mg base 3 "_law_sum" ["_law_shares_here", "_law_numbers"] S_law_sum) (O_law_spots : OkD Pr w K mg base 2 "_law_spots" ["_law_tall", "_law_wants_here"] S_law_spots) (O_law_is_blend : OkD Pr w K mg base 4 "_law_is_blend" ["_law_blend", "_law_tall"] S_law_is_blend) (O_law_keeps : OkD Pr w K mg base 4 "_law_keeps" ["_law_blend", "_law_wants_here"] S_law_keeps) :
    OkD Pr w K mg base 12 "_law_case_right" ["_law_mine", "_law_body_here", "_law_aim_here", "_law_is_small"] S_case_right := by
  refine ok_mk T.f_law_case_right sc_law_case_right (fun ds P ⟨a, b, c, d, f, g, h, e, _⟩ => by rw [e]; rfl) (fun f cdv A outer s H E hr => ⟨_, 
    (pss_cons (ps_par (i := 4) (j := 5) rfl sc_law_case_right.nd rfl rfl (by decide) rfl rfl (pa_cons (pe_callB (kcall_len K) rfl T.z_len PySem.boot_len (pa_cons (pv 1) pa_nil)) (pa_cons (pe_lst pa_nil) pa_nil)) (by rfl))
      (pss_cons (ps_for PassesOwn.never rfl (kpi_list K (pe_ok O_law_marks (hr.mono (by decide)) (pa_cons (pe_callB (kcall_len K) rfl T.z_len PySem.boot_len (pa_cons (pv 2) pa_nil)) pa_nil))) (pg_nameA (i := 6) sc_law_case_right.nd) (pss_cons (ps_par (i := 7) (j := 8) rfl sc_law_case_right.nd rfl rfl (by decide) rfl rfl (pa_cons (pe_ok O_corner_mix (hr.mono (by decide)) (pa_cons (pv 0) (pa_cons (pv 2) (pa_cons (pv 6) pa_nil)))) (pa_cons (pe_ok O_law_wants (hr.mono (by decide)) (pa_cons (pv 1) (pa_cons (pv 2) (pa_cons (pv 6) pa_nil)))) pa_nil)) (by rfl))
      (pss_cons (ps_if (PW.pt (pw_and (pt_val (pv 3)) (pw_and1 (pt_cmpR op_ne (pe_cmpR op_notN (pv 7) pe_non (nomark _)) (pe_cmpR (kop_neD K (by exact hr.units)) (pe_ok O_law_spots (hr.mono (by decide)) (pa_cons (pv 4) (pa_cons (pv 8) pa_nil))) (pe_lst pa_nil) (nomark _)) (nomark _))))) (pss_one (ps_ret pe_bl)) pss_nil)
      (pss_one (ps_if (pt_cmpR op_isN (pv 7) pe_non (nomark _)) (pss_one (ps_expr (kpe_append K (pv 5) (pa_cons (pv 6) pa_nil)))) (pss_one (ps_if (PW.pt (pw_or (pt_not (pt_val (pe_ok O_law_is_blend (hr.mono (by decide)) (pa_cons (pv 7) (pa_cons (pv 4) pa_nil))))) (pw_or1 (pt_not (pt_val (pe_ok O_law_keeps (hr.mono (by decide)) (pa_cons (pv 7) (pa_cons (pv 8) pa_nil)))))))) (pss_one (ps_ret pe_bl)) pss_nil)))))))
      (pss_cons (ps_if (pt_cmpR (kop_neD K (by exact hr.units)) (pe_okK KO_corner_mix (hr.mono (by decide)) (pk_cons (pv 6) (pk_cons (pv 2) (pk_cons (pv 0) pk_nil)))) (pv 7) (nomark _)) (pss_one (ps_ret pe_bl)) pss_nil)
      (pss_cons (ps_setA (i := 9) sc_law_case_right.nd (pe_okK KO_barring (hr.mono (by decide)) (pk_cons (pv 2) (pk_cons (pv 0) pk_nil))))
      (pss_cons (ps_if (PW.pt (pw_or (pt_cmpR op_ne (pe_callB call_repr_bl rfl T.z_repr (by decide +kernel) (pa_cons (pe_ok O_is_served (hr.mono (by decide)) (pa_cons (pv 0) (pa_cons (pv 2) pa_nil))) pa_nil)) (pe_callB call_repr_bl rfl T.z_repr (by decide +kernel) (pa_cons (pe_cmpR (kop_eqD K (by exact hr.units)) (pv 5) (pe_lst pa_nil) (nomark _)) pa_nil)) (nomark _)) (pw_or1 (pt_cmpR op_ne (pe_cmpR op_isN (pv 9) pe_non (nomark _)) (pe_cmpR (kop_eqD K (by exact hr.units)) (pv 5) (pe_lst pa_nil) (nomark _)) (nomark _))))) (pss_one (ps_ret pe_bl)) pss_nil)
      (pss_cons (ps_if (pt_cmpR op_isN (pv 9) pe_non (nomark _)) (pss_one (ps_ret pe_bl)) pss_nil)
      (pss_cons (ps_if (PW.pt (pw_or (pt_not (pt_val (pe_callB (kcall_isi K) rfl T.z_isinstance (by decide +kernel) (pa_cons (pv 9) (pa_cons (pe_bltn (v := .ty "tuple") rfl T.z_tuple (by decide +kernel) rfl) pa_nil))))) (pw_or (pt_cmpR op_ne (pe_callB (kcall_len K) rfl T.z_len PySem.boot_len (pa_cons (pv 9) pa_nil)) pe_int (nomark _)) (pw_or1 (pt_cmpR (kop_notInD K (by have := hr.un; exact Nat.lt_of_le_of_lt (Nat.le_trans (Nat.add_le_add_left (by decide : 65 ≤ 200) _) (Nat.add_le_add_right (Nat.le_add_right _ _) _)) this)) (pe_ix (kix_seq K) (pv 9) pe_int (fun _ _ => rfl)) (pv 5) (by with_unfolding_all rfl)))))) (pss_one (ps_ret pe_bl)) pss_nil)
      (pss_cons (ps_if (pt_not (pt_val (pe_ok O_law_bars (hr.mono (by decide)) (pa_cons (pv 1) (pa_cons (pv 2) (pa_cons (pe_ix (kix_seq K) (pv 9) pe_int (fun _ _ => rfl)) (pa_cons (pe_ix (kix_seq K) (pv 9) pe_int (fun _ _ => rfl)) pa_nil))))))) (pss_one (ps_ret pe_bl)) pss_nil)
      (pss_cons (ps_asg (pv 9) (kpg_tup K (n := 2) (pgs_cons (pg_nameA (i := 6) sc_law_case_right.nd) (pgs_cons (pg_nameA (i := 10) sc_law_case_right.nd) pgs_nil))))
      (pss_cons (ps_for PassesOwn.never rfl (kpi_tup K (pe_ok O_corner (hr.mono (by decide)) (pa_cons (pv 0) (pa_cons (pv 6) pa_nil)))) (pg_nameA (i := 11) sc_law_case_right.nd) (pss_cons (ps_setA (i := 12) sc_law_case_right.nd (pe_lst pa_nil))
      (pss_cons (ps_for PassesOwn.never rfl (pi_range1 rfl T.z_range (pa_cons (pe_callB (kcall_len K) rfl T.z_len PySem.boot_len (pa_cons (pv 2) pa_nil)) pa_nil)) (pg_nameA (i := 13) sc_law_case_right.nd) (pss_cons (ps_setA (i := 14) sc_law_case_right.nd (pe_ix (kix_seq K) (pe_ix (kix_seq K) (pv 2) (pv 13) (fun _ _ => rfl)) (pe_callTy call_int1 rfl T.z_int (by decide +kernel) (pa_cons (pe_cmpR op_gt (pe_ix (kix_seq K) (pv 6) (pv 13) (fun _ _ => rfl)) pe_int (nomark _)) pa_nil)) (fun _ _ => rfl)))
      (pss_one (ps_expr (kpe_append K (pv 12) (pa_cons (pe_op op_mul (pe_ix (kix_seq K) (pv 6) (pv 13) (fun _ _ => rfl)) (pe_op op_sub (pe_ix (kix_seq K) (pe_ix (kix_seq K) (pv 11) (pv 13) (fun _ _ => rfl)) pe_int (fun _ _ => rfl)) (pv 14))) pa_nil))))))
      (pss_one (ps_if (pt_cmpR op_le (pe_ix (kix_seq K) (pe_ok O_law_sum (hr.mono (by decide)) (pa_cons (pv 10) (pa_cons (pv 12) pa_nil))) pe_int (fun _ _ => rfl)) pe_int (nomark _)) (pss_one (ps_ret pe_bl)) pss_nil)))))
      (pss_one (ps_ret pe_bl)))))))))))),
    fun ds P ⟨t, w, hd, nm, B, G, sm, e, hT, hG, hsm, p⟩ => ?_⟩) fun _ _ _ _ _ _ us hl => match us, hl with | [_, _, _, _], _ => rfl
  subst e
  have ht := hT.t8
  have ht1 := hT.t1
  have hw := hT.w4
  have hw1 := hT.w1
  have hlb : (seqD t fun i => D.lst (strD w (B i))).length = t := by rw [seqD_len]
  have hlG : (strD w G).length = w := by unfold strD; rw [seqD_len]
  have hpow : 2 ^ w ≤ 8 := Nat.pow_le_pow_right (by decide) hw
  have hml : (marks w).length ≤ 8 := by rw [marks_len]; exact hpow
  refine w_seq (w_parOwn (w_cb ca_len (w_cons (w_var rfl (w_nil ⟨_, _, rfl, rfl, ?_⟩)))))
  rw [hlb]
  generalize htab : tabD t w hd nm B = tab
  generalize hbody : bodyD t w B = body
  generalize haim : D.tup (strD w G) = aim
  generalize hbl : (fun r => blD t w B G r) = bl
  refine wS_env [.dat tab, .dat body, .dat aim, .dat (.bl sm), .dat (.int (t : Nat)), .own [], .any, .any, .any, .any, .any, .any, .any, .any, .any] (by walk_at "wk") ?_
  refine w_seq (w_for (i_list (w_call (w_cons (w_cb ca_len (w_cons (w_var rfl (w_nil ⟨aim, strD w G, rfl, by rw [← haim]; rfl, w_nil ⟨w, by rw [hlG], by omega, _, rfl, ?_⟩⟩))))))))
  refine for_map [6] (fun i ρ => Stop (∃ d6 d7 d8, ρ = [.dat tab, .dat body, .dat aim, .dat (.bl sm), .dat (.int (t : Nat)), .own ((missing t w B G i).map sgD), d6, d7, d8, .any, .any, .any, .any, .any, .any] ∧ (0 < i → ∃ r, r ∈ marks w ∧ d6 = .dat (sgD r) ∧ d7 = .dat (bl r)))) (stop ⟨.any, .any, .any, rfl, fun h => absurd h (Nat.lt_irrefl 0)⟩) (fun i r ρ hr hp => ?_) (fun ρ hp => ?_)
  · obtain ⟨d6, d7, d8, e, _⟩ := hp.go
    subst e
    have hm := List.mem_of_getElem? hr
    refine g_name (by decide) ?_
    refine w_seq (w_par (w_cons (w_call (w_cons (w_var rfl (w_cons (w_var rfl (w_cons (w_var rfl (w_nil ⟨t, w, hd, nm, B, G, r, by rw [htab, haim], hT, hG, hm, ?_⟩))))))))))
    refine w_cons (w_call (w_cons (w_var rfl (w_cons (w_var rfl (w_cons (w_var rfl (w_nil ⟨t, w, B, G, sv r, by rw [hbody, haim, sg_seq (marks_mem hm).1], by omega, by omega, fun k hk => sv_two hm hk, w_nil ⟨_, _, rfl, ?_⟩⟩))))))))
    have hblr : bl r = blD t w B G r := by rw [← hbl]
    rw [← hblr]
    refine wS_env [.dat tab, .dat body, .dat aim, .dat (.bl sm), .dat (.int (t : Nat)), .own ((missing t w B G i).map sgD), .dat (sgD r), .dat (bl r), .dat (.lst (wishD t w (Wd B (sv r)) (gd G (sv r)))), .any, .any, .any, .any, .any, .any] (by walk_at "wk") ?_
    have S : Small (w + 2) t (cA w B r) (cb w G r) := corner_small hT hG (sv r)
    have hsml : ((missing t w B G i).map sgD).length < 100000 := by
      rw [List.length_map]
      exact Nat.lt_of_le_of_lt (missing_len i) (by omega)
    refine w_seq (w_ifJ [.dat tab, .dat body, .dat aim, .dat (.bl sm), .dat (.int (t : Nat)), .own ((missing t w B G i).map sgD), .dat (sgD r), .dat (bl r), .dat (.lst (wishD t w (Wd B (sv r)) (gd G (sv r)))), .any, .any, .any, .any, .any, .any] ?_ ?_)
    · cases sm with
      | false =>
        walk_at "ev"
        rfl
      | true =>
        have h3 : t ≤ 3 := hsm rfl
        walk_at "ev"
        refine ⟨ht1, h3, by omega, fun k j hk hj => Nat.le_trans (Wd_small hT hj hk) (by decide), fun k hk => Nat.le_trans (gd_small hG hk) (by decide), fun L hL hok hiff => ?_⟩
        walk_at "ev"
        have key : (!Dl.isNon (bl r)) = (!L.isEmpty) := by
          rw [hblr]
          by_cases h : p1 (w + 2) t (cA w B r) (cb w G r) 0 = 0
          · rw [bl_good h]
            have hne := hiff.mpr ((spots_iff ht1 h3).mp h)
            cases L with
            | nil => exact absurd rfl hne
            | cons a L => rfl
          · rw [bl_bad h]
            have he : L = [] := by
              cases L with
              | nil => rfl
              | cons a L => exact absurd ((spots_iff ht1 h3).mpr (hiff.mp (by simp))) h
            rw [he]
            rfl
        refine ⟨(okN_lst hok).eq (by decide), okE_nilL, ?_⟩
        rw [eqv_nilL, ← key]
        refine ⟨_, _, rfl, rfl, rfl, ?_⟩
        rw [decide_eq_true rfl]
        exact ⟨_, rfl, ite_nt (w_next rfl)⟩
    · by_cases h : p1 (w + 2) t (cA w B r) (cb w G r) 0 = 0
      · have hbr : bl r = .tup (rowD t (pnt (w + 2) t (cA w B r) (cb w G r))) := hblr.trans (bl_good h)
        have hmix := mix_fits.mp (sol_fits h)
        have hnon : Dl.isNon (bl r) = false := by rw [hbr]; rfl
        refine w_ifS (w_test (w_op od_isN (w_var rfl (w_c ⟨rfl, _, rfl, ?_⟩))))
        rw [hnon]
        refine ite_false' ?_
        refine w_ifS (w_or (w_not (w_B (w_call (w_cons (w_var rfl (w_cons (w_var rfl (w_nil ⟨t, _, by rw [hbr], ht, fun j _ => pnt_sz S h j, hmix.nn, hmix.one, _, rfl, ?_⟩)))))))))
        refine ite_nt ?_
        refine w_not (w_B (w_call (w_cons (w_var rfl (w_cons (w_var rfl (w_nil ⟨t, w, _, Wd B (sv r), gd G (sv r), by rw [hbr], ht, by omega, fun j _ => pnt_sz S h j, fun k j hk hj => Nat.le_trans (Wd_small hT hj hk) (by decide), fun k hk => Nat.le_trans (gd_small hG hk) (by decide), fun k hk => ?_, _, rfl, ?_⟩)))))))
        · have h2 := hmix.row k hk
          have e : sumTo t (fun j => pnt (w + 2) t (cA w B r) (cb w G r) j * (Wd B (sv r) k j : Rat)) = sumTo t (fun j => (Wd B (sv r) k j : Rat) * pnt (w + 2) t (cA w B r) (cb w G r) j) := sumTo_congr fun j _ => Rat.mul_comm _ _
          rw [e]
          exact h2
        refine ite_nt ?_
        refine w_next (stop ⟨_, _, .dat (.lst (wishD t w (Wd B (sv r)) (gd G (sv r)))), ?_, fun _ => ⟨r, hm, rfl, rfl⟩⟩)
        rw [missing_succ hr, if_neg (by rw [bad_off.mpr h]; exact Bool.false_ne_true)]
      · have hnon : Dl.isNon (bl r) = true := by rw [hblr, bl_bad h]; rfl
        refine w_ifS (w_test (w_op od_isN (w_var rfl (w_c ⟨rfl, _, rfl, ?_⟩))))
        rw [hnon]
        refine ite_true' ?_
        refine w_append rfl (w_var rfl ⟨_, rfl, hsml, stop ⟨.dat (sgD r), .dat (bl r), .dat (.lst (wishD t w (Wd B (sv r)) (gd G (sv r)))), ?_, fun _ => ⟨r, hm, rfl, rfl⟩⟩⟩)
        have hb : bad t w B G r = true := by
          cases z : bad t w B G r with
          | true => rfl
          | false => exact absurd (bad_off.mp z) h
        rw [missing_succ hr, if_pos hb, List.map_append]
        rfl
  · obtain ⟨d6, d7, d8, e, hlast⟩ := hp.go
    subst e
    have hpos : 0 < (marks w).length := by rw [marks_len]; exact Nat.two_pow_pos w
    obtain ⟨r0, hm0, e6, e7⟩ := hlast hpos
    subst e6 e7
    rw [missing_all]
    have hblr : bl r0 = blD t w B G r0 := by rw [← hbl]
    refine w_seq (w_ifS (w_test (w_op od_neD (w_callK back_rp (w_nil (w_cons (w_var rfl (w_cons (w_var rfl (w_cons (w_var rfl (w_nil ⟨t, w, hd, nm, B, G, r0, by rw [htab, haim]; rfl, hT, hG, hm0, w_var rfl ?_⟩))))))))))))
    rw [hblr]
    refine ⟨bl_ok.eq (by decide), bl_ok.eq (by decide), ?_⟩
    rw [bl_ok.self]
    refine ⟨_, rfl, ite_nt ?_⟩
    refine w_next ?_
    refine w_seq (w_set (w_callK back_rp (w_nil (w_cons (w_var rfl (w_cons (w_var rfl (w_nil ⟨t, w, hd, nm, B, G, by rw [htab, haim]; rfl, hT, hG, ?_⟩))))))))
    refine w_pub (i := 5) rfl ?_
    have hM1 : okEq (.lst ((missAll t w B G).map sgD)) := (okN_mapL fun r _ => sg_ok r).eq (by decide)
    have key2 : Dl.isNon (barD t w B G) = ((missAll t w B G).map sgD).isEmpty := by
      rcases bar_cases (t := t) (w := w) (B := B) (G := G) with ⟨e1, e2⟩ | ⟨r, e1, _, _, e2⟩
      · rw [e1, e2]; rfl
      · rw [e2]
        cases h : missAll t w B G with
        | nil => rw [h] at e1; exact absurd e1 List.not_mem_nil
        | cons a L => rfl
    refine wS_env [.dat tab, .dat body, .dat aim, .any, .any, .dat (.lst ((missAll t w B G).map sgD)), .any, .any, .any, .dat (barD t w B G), .any, .any, .any, .any, .any] (by walk_at "wk") ?_
    refine w_seq (w_ifS (w_or (w_test (w_op od_ne (w_cb ca_repr (w_cons (w_call (w_cons (w_var rfl (w_cons (w_var rfl (w_nil ⟨t, w, hd, nm, B, G, by rw [htab, haim], hT, hG, w_nil ⟨_, rfl, w_cb ca_repr (w_cons (w_op od_eqD (w_var rfl (w_lst (w_nil ⟨Nat.zero_le _, hM1, okE_nilL, ?_⟩)))))⟩⟩))))))))))))
    rw [eqv_nilL, ← key2]
    refine w_nil ⟨_, rfl, _, _, rfl, rfl, rfl, ?_⟩
    rw [decide_eq_true rfl]
    refine ⟨_, rfl, ite_nt ?_⟩
    refine w_test (w_op od_ne (w_op od_isN (w_var rfl (w_c ⟨rfl, w_op od_eqD (w_var rfl (w_lst (w_nil ⟨Nat.zero_le _, hM1, okE_nilL, ?_⟩)))⟩))))
    rw [eqv_nilL, ← key2]
    refine ⟨_, _, rfl, rfl, rfl, ?_⟩
    rw [decide_eq_true rfl]
    refine ⟨_, rfl, ite_nt ?_⟩
    refine w_next ?_
    rcases bar_cases (t := t) (w := w) (B := B) (G := G) with ⟨e1, e2⟩ | ⟨r, hr1, hrm, hbad, e2⟩
    · rw [e2]
      walk_at "ev"
      refine ite_true' ?_
      exact w_ret (w_c p)
    · rw [e2]
      have hS : Small (w + 2) t (cA w B r) (cb w G r) := corner_small hT hG (sv r)
      obtain ⟨hnn, hpos⟩ := bar_sum hrm hbad
      have hysz : ∀ k, sz 400 (wts (w + 2) t (cA w B r) (cb w G r) k) := fun k => wts_sz hS k
      generalize wts (w + 2) t (cA w B r) (cb w G r) = y at hnn hpos hysz
      refine w_seq (w_ifS (w_test (w_op od_isN (w_var rfl (w_c ⟨rfl, _, rfl, ?_⟩)))))
      refine ite_false' ?_
      refine w_next ?_
      walk_at "ev"
      rw [decide_eq_true (show V.int ((([sgD r, .tup (rowD w y)] : List D).length : Nat) : Int) = V.int 2 from rfl)]
      walk_at "ev"
      refine ⟨(sg_ok r).eq (by decide), hM1, ?_⟩
      rw [any_in (List.mem_map.mpr ⟨r, hr1, rfl⟩) (sg_ok r)]
      walk_at "ev"
      refine ⟨t, w, B, G, sv r, y, by rw [← hbody, ← haim, sg_seq (marks_mem hrm).1], by omega, by omega, fun k hk => sv_two hrm hk, fun k _ => hysz k, hnn, fun j k hj hk => met_small hT hG hrm hj hk, hpos, ?_⟩
      refine ⟨_, rfl, ite_nt ?_⟩
      refine w_next ?_
      refine w_seq (w_asg (js := [6, 10]) (w_var rfl (g_tup ⟨_, rfl, rfl, g_cons (g_name (by decide) (g_cons (g_name (by decide) (g_nil ?_))))⟩)))
      refine wS_env [.dat tab, .any, .dat aim, .any, .any, .any, .dat (sgD r), .any, .any, .any, .dat (.tup (rowD w y)), .any, .any, .any, .any] (by walk_at "wk") ?_
      refine w_seq (w_for (i_tup (w_call (w_cons (w_var rfl (w_cons (w_var rfl (w_nil ⟨t, w, hd, nm, B, r, by rw [htab], by omega, by omega, hrm, _, rfl, ?_⟩))))))))
      refine for_seq [11] (fun j ρ => Stop (∃ d11 d12 d13 d14, ρ = [.dat tab, .any, .dat aim, .any, .any, .any, .dat (sgD r), .any, .any, .any, .dat (.tup (rowD w y)), d11, d12, d13, d14])) (stop ⟨.any, .any, .any, .any, rfl⟩) (fun j ρ hj hp' => ?_) (fun ρ hp' => ?_)
      · obtain ⟨d11, d12, d13, d14, e⟩ := hp'.go
        subst e
        refine g_name (by decide) ?_
        refine w_seq (w_setOwn (w_nil ⟨Nat.zero_le _, ?_⟩))
        refine w_seq (w_for (i_rng1 (w_cons (w_cb ca_len (w_cons (w_var rfl (w_nil ⟨aim, strD w G, rfl, by rw [← haim]; rfl, w_nil ⟨_, rfl, by rw [hlG]; omega, ?_⟩⟩)))))))
        rw [hlG, show ((w : Nat) : Int).toNat = w by omega, nums_seq]
        refine for_seq [13] (fun k ρ => Stop (∃ d13 d14, ρ = [.dat tab, .any, .dat aim, .any, .any, .any, .dat (sgD r), .any, .any, .any, .dat (.tup (rowD w y)), .dat (.tup (seqD w fun k => .tup [.int (endOf (B j k) (sv r k)), .int 1])), .own (seqD k fun k => .int (met B G (sv r) j k)), d13, d14])) (stop ⟨d13, d14, rfl⟩) (fun k ρ hk hp' => ?_) (fun ρ hp' => ?_)
        · obtain ⟨d13, d14, e⟩ := hp'.go
          subst e
          have hcm : ∀ z, CMul (sv r k) z := fun z => .inl (by rcases sv_two hrm hk with e | e <;> rw [e] <;> decide)
          have hlen : (seqD k fun k => .int (met B G (sv r) j k)).length < 100000 := by rw [seqD_len]; omega
          have hfin : ∀ z : Int, z = met B G (sv r) j k → (seqD k fun k => .int (met B G (sv r) j k)) ++ [D.int z] = seqD (k + 1) fun k => .int (met B G (sv r) j k) := fun z e => by rw [e]; exact seqD_snoc k _
          rw [show D.int (0 + (k : Nat)) = D.int (k : Nat) by rw [Int.zero_add], ← haim, sg_seq (marks_mem hrm).1]
          unfold sgS strD
          refine g_name (by decide) ?_
          by_cases h : 0 < sv r k
          · walk_at "ev"
            rw [decide_eq_true h]
            walk_at "ev"
            refine ⟨hcm _, _, rfl, hlen, stop ⟨.dat (.int (k : Nat)), .dat (.int (G k).2), ?_⟩⟩
            have hz : sv r k * (endOf (B j k) (sv r k) - (G k).2) = met B G (sv r) j k := by
              unfold met
              rw [show endOf (G k) (sv r k) = (G k).2 by unfold endOf; rw [if_pos h]]
            rw [hfin _ hz]
            rfl
          · walk_at "ev"
            rw [decide_eq_false h]
            walk_at "ev"
            refine ⟨hcm _, _, rfl, hlen, stop ⟨.dat (.int (k : Nat)), .dat (.int (G k).1), ?_⟩⟩
            have hz : sv r k * (endOf (B j k) (sv r k) - (G k).1) = met B G (sv r) j k := by
              unfold met
              rw [show endOf (G k) (sv r k) = (G k).1 by unfold endOf; rw [if_neg h]]
            rw [hfin _ hz]
            rfl
        · obtain ⟨d13, d14, e⟩ := hp'.go
          subst e
          refine w_pub (i := 12) rfl ?_
          walk_at "ev"
          refine ⟨by omega, fun k _ => hysz k, fun k hk => met_small hT hG hrm hj hk, ?_⟩
          walk_at "ev"
          rw [decide_eq_false (by have := num_pos.mpr (hpos j hj); omega)]
          walk_at "ev"
          exact stop ⟨_, _, _, _, rfl⟩
      · obtain ⟨d11, d12, d13, d14, e⟩ := hp'.go
        subst e
        exact w_ret (w_c p)
end
end Cs
set_option Elab.async false
set_option linter.all false
set_option maxRecDepth 100000
set_option maxHeartbeats 8000000
/-! The law. -/
namespace Cs
open PySem PySem.Spec PyProof.Rows L2 StX Dl Mx
local macro_rules | `(tactic| walk_at "ev1") => `(tactic| first
  | with_reducible refine w_seq ?_
  | with_reducible refine ite_true' ?_
  | with_reducible refine ite_false' ?_
  | with_reducible refine ite_nt ?_
  | with_reducible refine ite_nf ?_
  | with_reducible refine w_next ?_
  | with_reducible refine w_ret ?_
  | with_reducible refine w_set ?_
  | with_reducible refine w_par ?_
  | with_reducible refine w_par3 ?_
  | with_reducible refine w_drop ?_
  | with_reducible refine w_ifS ?_
  | refine w_var rfl ?_
  | with_reducible refine w_cd (zeroR (by assumption)) ?_
  | with_reducible refine w_cd (oneR (by assumption)) ?_
  | with_reducible refine w_c ?_
  | with_reducible refine w_yes ?_
  | with_reducible refine w_cons ?_
  | with_reducible refine w_star ?_
  | with_reducible refine w_nil ?_
  | with_reducible refine w_tup ?_
  | with_reducible refine w_lst ?_
  | with_reducible refine w_neg ?_
  | with_reducible refine w_if ?_
  | with_reducible refine w_test ?_
  | with_reducible refine w_B ?_
  | with_reducible refine w_not ?_
  | with_reducible refine w_notV ?_
  | with_reducible refine w_and ?_
  | with_reducible refine w_or ?_
  | with_reducible refine w_andV ?_
  | with_reducible refine w_orV ?_
  | with_reducible refine w_op od_I0 ?_
  | with_reducible refine w_op od_I ?_
  | with_reducible refine w_op od_ix ?_
  | with_reducible refine w_op od_ixL ?_
  | with_reducible refine w_op od_ixT ?_
  | with_reducible refine w_op od_eq ?_
  | with_reducible refine w_op od_ne ?_
  | with_reducible refine w_op od_isN ?_
  | with_reducible refine w_op od_notN ?_
  | with_reducible refine w_op od_cat ?_
  | with_reducible refine w_op od_catA ?_
  | with_reducible refine w_op od_rep ?_
  | with_reducible refine w_op od_repN ?_
  | with_reducible refine w_op od_eqD ?_
  | with_reducible refine w_op od_neD ?_
  | with_reducible refine w_op od_in ?_
  | with_reducible refine w_op od_notInD ?_
  | with_reducible refine w_slL ?_
  | with_reducible refine w_slT ?_
  | with_reducible refine w_noPart ?_
  | with_reducible refine w_some ?_
  | with_reducible refine w_call ?_
  | with_reducible refine w_cb ca_len ?_
  | with_reducible refine w_cb ca_len_str ?_
  | with_reducible refine w_cb ca_list ?_
  | with_reducible refine w_cb ca_tuple ?_
  | with_reducible refine w_cb ca_abs ?_
  | with_reducible refine w_cb ca_int ?_
  | with_reducible refine w_cb ca_all ?_
  | with_reducible refine w_cb ca_repr ?_
  | with_reducible refine w_lc ?_
  | with_reducible refine w_lc2 ?_
  | with_reducible refine w_for ?_
  | with_reducible refine w_meth ?_
  | with_reducible refine w_prop ?_
  | with_reducible refine w_mk ?_
  | with_reducible refine w_dc ?_
  | with_reducible refine w_dget2 ?_
  | with_reducible refine w_lstRg ?_
  | with_reducible refine w_cb ca_isi ?_
  | with_reducible refine w_cb ca_isC ?_
  | with_reducible refine w_cb ca_divmod ?_
  | with_reducible refine w_op od_inSign ?_
  | with_reducible refine i_enumA ?_
  | with_reducible refine i_zipTL ?_
  | with_reducible refine i_enumZip ?_
  | with_reducible refine i_zipTT ?_
  | with_reducible refine g_tup ?_
  | refine ⟨_, rfl, rfl, ?_⟩
  | with_reducible refine g_cons ?_
  | with_reducible refine g_name (by decide) ?_
  | with_reducible refine g_nil ?_
  | with_reducible refine w_asg (js := List.range 40) ?_
  | refine ⟨okEq_fr _, okEq_fr _, ?_⟩
  | with_reducible refine i_list ?_
  | with_reducible refine i_tup ?_
  | with_reducible refine i_rng1 ?_
  | with_reducible refine i_rng2 ?_
  | with_reducible refine i_enum ?_
  | with_reducible refine i_zip ?_
  | with_reducible refine i_str ?_
  | refine ⟨Nat.le_of_ble_eq_true rfl, ?_⟩
  | refine ⟨_, rfl, ?_⟩
  | refine ⟨_, _, rfl, ?_⟩
  | refine ⟨_, _, _, rfl, ?_⟩
  | refine ⟨_, _, _, _, rfl, rfl, rfl, ?_⟩
  | refine ⟨_, _, rfl, by decide, ?_⟩
  | refine ⟨_, _, rfl, rfl, ?_⟩
  | refine ⟨_, _, _, rfl, rfl, rfl, ?_⟩
  | refine ⟨_, _, _, rfl, rfl, ?_⟩
  | refine ⟨_, _, _, rfl, rfl, seqD_atI (by first | assumption | omega), ?_⟩
  | refine ⟨_, _, _, _, rfl, ?_⟩
  | refine ⟨_, _, _, _, _, rfl, ?_⟩
  | refine ⟨rfl, ?_⟩
  | refine ⟨by decide +kernel, ?_⟩)
local macro_rules | `(tactic| walk_at "ev") => `(tactic| repeat walk_at "ev1")
local macro_rules | `(tactic| walk_at "wk") => `(tactic| repeat (first | exact True.intro | refine ⟨.inr rfl, ?_⟩ | refine ⟨.inl rfl, ?_⟩))
local macro_rules | `(tactic| walk_at "ev1") => `(tactic| first
  | with_reducible refine w_cb ca_intI ?_)
/-! ### a def that hands back a new list of three numbers -/
def spNew (K : PySem.W.Frag) (S : List D → Prop) : Sp := fun vs H1 Q _ => ∃ Hk ds, Same Hk H1 ∧ RpL K Hk ds vs ∧ S ds ∧ ∀ p x Hk' H2', MugOk x 0 → Hk' p = none → H2' p = some (.lst (mugV x)) → (∀ a o, H1 a = some o → H2' a = some o) → Same Hk Hk' → Same Hk' H2' → (∀ a, Hk' a ≠ none → Hk a ≠ none ∨ H1 a = none) → H1 p = none → Q (.ref p) H2'
section
variable {K : PySem.W.Frag} {ρ : Dl.Env} {P : PD}
def wSN (K : PySem.W.Frag) (t : TS) (ρ : Dl.Env) (R : List D → Dl.Env → Prop) : Prop := ∀ σ Hk H2 (F : Ends), At K ρ σ Hk H2 →
  (∀ p ds xs ρ' σ' Hk' H2', R ds ρ' → At K ρ' σ' Hk' H2' → Tr (Own ρ σ) Hk H2 (Own ρ' σ') Hk' H2' → H2' p = none → RpL K Hk' ds xs → F.rt (.ref p) (upd H2' p (.lst xs))) → t F σ H2
theorem n_ret {ta : TA} {R : List D → Dl.Env → Prop} (h : wA K ta ρ fun ds ρ' => ds.length ≤ 100000 ∧ R ds ρ') : wSN K (tRet (tLst ta)) ρ R := fun σ Hk H2 F A r =>
  h σ Hk H2 A _ fun ys ds ρ1 Hk1 H21 ⟨hl, hR⟩ A1 T1 r1 => ⟨by rw [r1.length]; exact Nat.le_trans hl (by decide), fun a ha => r a ds ys ρ1 σ Hk1 H21 hR A1 T1 ha r1⟩
theorem n_seq {t u : TS} {R : List D → Dl.Env → Prop} (h : wS K t ρ ⟨fun ρ1 => wSN K u ρ1 R, fun _ _ => False, fun _ => False, fun _ => False⟩) : wSN K (tSeq t u) ρ R := fun σ Hk H2 F A r =>
  h σ Hk H2 _ A (fun ρ1 σ1 Hk1 H21 p A1 T1 => p σ1 Hk1 H21 F A1 fun a ds xs ρ' σ' Hk' H2' hR A' T' => r a ds xs ρ' σ' Hk' H2' hR A' (T1.trans T')) (fun _ _ _ _ _ _ z => z.elim) (fun _ _ _ _ z => z.elim) (fun _ _ _ _ z => z.elim)
/-- f(new(..)) -/
theorem w_callNew {c : Nat} {S : List D → (D → Prop) → Prop} {S' : List D → Prop} {E E' : XK} {ta : TA} (h : wA K ta ρ fun ds ρ1 => S' ds ∧ c ≤ mugCap ∧ S [] fun d => P d ρ1) : wE K (tCall (spM K c S) [] E (tCons (tCall (spNew K S') [] E' ta) tNil)) ρ P := fun σ Hk H2 A Q q =>
  h σ Hk H2 A _ fun ys ds ρ1 Hk1 H21 ⟨hS', hc, hS⟩ A1 T1 r1 => by
    refine ⟨Hk1, ds, A1.sub, by rw [List.append_nil]; exact r1, hS', fun p x Hk' H2' ok hn hl keep ex sub new hfree => ?_⟩
    refine ⟨p, x, 0, [], Hk', [], rfl, hn, hl, ok, by omega, sub, rfl, _, hS, fun y d x' Hk'' H2'' hP ok' s hn' hl' T' r' => ?_⟩
    have k2 : ∀ a o, H21 a = some o → H2'' a = some o := fun a o e => T'.fro a o (keep a o e) fun z => by rw [z, hfree] at e; exact nomatch e
    have n2 : ∀ a, Hk'' a ≠ none → Hk1 a ≠ none ∨ H21 a = none := fun a e => by
      rcases T'.new a e with z | z | z
      · exact new a z
      · refine .inr ?_
        cases v : H21 a with
        | none => rfl
        | some o => rw [keep a o v] at z; exact nomatch z
      · rw [z]; exact .inr hfree
    have A2 : At K ρ1 σ Hk'' H2'' := A1.grow (ex.trans T'.ex) s k2 n2
    exact q y d ρ1 Hk'' H2'' hP A2 (T1.trans ⟨ex.trans T'.ex, fun a o e _ => k2 a o e, fun a e => (n2 a e).imp id .inl, fun a e => .inl e⟩) r'
end
theorem items_of {d : D} {es : List D} (h : lst? d = some es) : items d = some es := by
  cases d <;> first | exact h | exact nomatch h
def S_mugArgs : List D → Prop := fun ds => ∃ (d : D) (cs : List Int) (k : Nat), ds = [d, .int (k : Nat)] ∧ lst? d = some (cs.map D.int) ∧ cs.length ≤ 100 ∧ k ≤ 100
def S_right : PS1 := fun ds P => ds = [] ∧ P (.bl true)
def S_law : PS1 := fun ds P => ∃ (d : D) (cs : List Int), ds = [d] ∧ lst? d = some (cs.map D.int) ∧ cs.length ≤ 100 ∧ P (.bl true)
section
variable {Pr : Program} {w : World} {K : PySem.W.Frag} {mg : Str → Option Value} {base : Heap}
theorem sc_law_mug : FnScope ["_law_cells", "_law_k", "_law_cell", "_law_stirred", "_law_each"] ["_law_cells", "_law_k"] (defScope s_law_mug) := ⟨rfl, rfl, rfl, by decide +kernel, rfl, by decide +kernel, by decide +kernel⟩
theorem sc_law_right : FnScope ["_law_mug_here", "_law_is_small", "_law_tall", "_law_wide", "_law_body_here", "_law_mine"] ["_law_mug_here"] (defScope s_law_right) := ⟨rfl, rfl, rfl, by decide +kernel, rfl, by decide +kernel, by decide +kernel⟩
theorem sc_law : FnScope ["_law_cells", "_law_k"] ["_law_cells"] (defScope s_law) := ⟨rfl, rfl, rfl, by decide +kernel, rfl, by decide +kernel, by decide +kernel⟩
theorem O_law_mug (T : Tx K mg) : Ok Pr w K mg base 1 "_law_mug" ["_law_cells", "_law_k"] (spNew K S_mugArgs) := by
  obtain ⟨f, fd, F, hm⟩ := T.f_law_mug
  refine ⟨f, fd, F.ok sc_law_mug (fun vs H Q E ⟨Hk, ds, s, r, ⟨d, cs, k, e, _⟩, _⟩ => by rw [r.length, e]; rfl) (fun cdv A outer s H vs Q E hr h => ?_), F.binds fun _ _ _ _ _ _ us hl => match us, hl with | [_, _], _ => rfl, hm, F.kp⟩
  obtain ⟨Hk, ds, s1, r, ⟨d, cs, k, e, hd, hcs, hk⟩, q⟩ := h
  subst e
  refine ⟨_,
    (pss_cons (ps_setA (i := 2) sc_law_mug.nd (pe_ifExp (pt_cmpR op_lt (pv 1) (pe_callB (kcall_len K) rfl T.z_len PySem.boot_len (pa_cons (pv 0) pa_nil)) (nomark _)) (pe_callTy call_int1 rfl T.z_int (by decide +kernel) (pa_cons (pe_ix (kix_seq K) (pv 0) (pv 1) (fun _ _ => rfl)) pa_nil)) (pe_op op_add (pe_op op_mul pe_int (pv 1)) pe_int)))
      (pss_cons (ps_setA (i := 3) sc_law_mug.nd (pe_op op_add pe_int (pe_op op_mul pe_int (pv 1))))
      (pss_cons (ps_for PassesOwn.never rfl (kpi_list K (pe_op op_cat (pe_slice (ksl_list K) (pv 0) po_none (po_some pe_int)) (pe_lst (pa_cons (pv 2) pa_nil)))) (pg_nameA (i := 4) sc_law_mug.nd) (pss_one (ps_setA (i := 3) sc_law_mug.nd (pe_op op_mod (pe_callTy call_int1 rfl T.z_int (by decide +kernel) (pa_cons (pe_op op_add (pe_op op_mul (pv 3) pe_int) (pe_callTy call_int1 rfl T.z_int (by decide +kernel) (pa_cons (pv 4) pa_nil))) pa_nil)) pe_int))))
      (pss_one (ps_ret (pe_lst (pa_cons (pe_ifExp (PW.pt (pw_or (pt_cmpR op_lt (pv 2) pe_int (nomark _)) (pw_or1 (pt_cmpR op_ge (pv 2) (pe_op op_pow pe_int pe_int) (nomark _))))) (pe_callB call_abs rfl T.z_abs (by decide +kernel) (pa_cons (pv 2) pa_nil)) pe_int) (pa_cons (pv 3) (pa_cons pe_int pa_nil))))))))),
    ?_⟩
  have main : ∀ t, wSN K t (envOf ["_law_cells", "_law_k", "_law_cell", "_law_stirred", "_law_each"] [d, .int (k : Nat)]) (fun ds _ => ∃ x, ds = mugD x ∧ MugOk x 0) → t { nx := fun _ H' => Q .non H', rt := Q } (L2.start ["_law_cells", "_law_k", "_law_cell", "_law_stirred", "_law_each"] vs) H := fun t ht => by
    refine ht _ Hk H _ (at_start s1 r) fun p ds xs ρ' σ' Hk' H2' ⟨x, e, ok⟩ A' T' hp r' => ?_
    subst e
    obtain rfl := mug_rp.mp r'
    have hk' := A'.free hp
    refine q p x Hk' _ ok hk' upd_same (fun a o e => ?_) T'.ex (fun a o e => ?_) (fun a e => (T'.new a e).imp id fun z => z.elim id fun y => (noOwn y).elim) ?_
    · have h2 := T'.fro a o e noOwn
      rw [upd_ne (ne_of_none h2 hp)]
      exact h2
    · rw [upd_ne (fun z => by rw [z, hk'] at e; exact nomatch e)]
      exact A'.sub a o e
    · cases v : H p with
      | none => rfl
      | some o => rw [T'.fro p o v noOwn] at hp; exact nomatch hp
  refine main _ ?_
  have hit := items_of hd
  have hcm : ∀ i : Int, i.natAbs ≤ 10000000000 → ∀ z, CMul i z := fun i h z => .inl ⟨by omega, by omega⟩
  refine n_seq (w_set (wE.mono (P := fun d' ρ' => ∃ z : Int, d' = .int z ∧ ρ' = envOf ["_law_cells", "_law_k", "_law_cell", "_law_stirred", "_law_each"] [d, .int (k : Nat)]) ?_ fun d' ρ' ⟨z, e1, e2⟩ => ?_))
  · refine w_if (w_test (w_op od_I0 (w_var rfl (w_cb ca_len (w_cons (w_var rfl (w_nil ⟨d, _, rfl, hit, _, _, rfl, rfl, _, rfl, ite_dec (fun h => ?_) (fun h => ?_)⟩)))))))
    · rw [List.length_map] at h
      have hget : (cs.map D.int)[k]? = some (.int (cs[k]'(by omega))) := by rw [List.getElem?_map, List.getElem?_eq_getElem (by omega)]; rfl
      refine w_cb ca_intI (w_cons (w_op od_ix (w_var rfl (w_var rfl ⟨_, _, _, hit, rfl, atI_nat hget, w_nil ⟨_, rfl, _, rfl, rfl⟩⟩))))
    · refine w_op od_I0 (w_op od_I (w_c (w_var rfl ⟨_, _, rfl, rfl, hcm _ (by decide) _, w_c ⟨_, _, rfl, rfl, _, rfl, rfl⟩⟩)))
  subst e1 e2
  refine n_seq (w_set (w_op od_I0 (w_c (w_op od_I (w_c (w_var rfl ⟨_, _, rfl, rfl, hcm _ (by decide) _, _, _, rfl, rfl, ?_⟩))))))
  have hcut : ∀ e ∈ Dl.cutD (cs.map D.int) none (some (5 : Int)) ++ [D.int z], ∃ v : Int, e = .int v := fun e he => by
    rcases List.mem_append.mp he with y | y
    · unfold Dl.cutD at y
      obtain ⟨v, _, rfl⟩ := List.mem_map.mp (List.mem_of_mem_drop (List.mem_of_mem_take y))
      exact ⟨v, rfl⟩
    · exact ⟨z, List.mem_singleton.mp y⟩
  have hcl : (Dl.cutD (cs.map D.int) none (some (5 : Int))).length ≤ 100 := by
    unfold Dl.cutD
    rw [List.length_take, List.length_drop, List.length_map]
    omega
  refine n_seq (w_for (i_list (w_op od_cat (w_slL (w_var rfl (w_noPart (w_some (w_c ⟨_, rfl, _, hd, w_lst (w_cons (w_var rfl (w_nil ⟨show 1 ≤ 100000 by decide, _, _, rfl, rfl, show _ + 1 ≤ 100000 by omega, _, rfl, ?_⟩)))⟩))))))))
  refine ⟨[4], fun i ρ => Stop (∃ (s : Nat) (d4 : Sl), ρ = [.dat d, .dat (.int (k : Nat)), .dat (.int z), .dat (.int (s : Nat)), d4] ∧ s < 2147482819), stop ⟨99023 + 661 * k, .any, rfl, by omega⟩, fun i e ρ he hp => ?_, fun ρ hp => ?_⟩
  · obtain ⟨s, d4, e2, hs⟩ := hp.go
    subst e2
    obtain ⟨v, rfl⟩ := hcut e (List.mem_of_getElem? he)
    refine g_name (by decide) ?_
    walk_at "ev"
    refine ⟨hcm _ (by omega) _, ?_⟩
    walk_at "ev"
    have h0 : 0 ≤ ((s : Int) * 55001 + v) % 2147482819 := Int.emod_nonneg _ (by decide)
    have h1 : ((s : Int) * 55001 + v) % 2147482819 < 2147482819 := Int.emod_lt_of_pos _ (by decide)
    obtain ⟨s', hs'⟩ : ∃ s' : Nat, ((s : Int) * 55001 + v) % 2147482819 = (s' : Int) := ⟨_, (Int.toNat_of_nonneg h0).symm⟩
    rw [hs'] at h1 ⊢
    exact stop ⟨s', .dat (.int v), rfl, by omega⟩
  · obtain ⟨s, d4, e2, hs⟩ := hp.go
    subst e2
    refine n_ret (w_cons (wE.mono (P := fun d' ρ' => ∃ a : Nat, d' = .int (a : Nat) ∧ ρ' = [.dat d, .dat (.int (k : Nat)), .dat (.int z), .dat (.int (s : Nat)), d4]) ?_ fun d' ρ' ⟨a, e1, e2⟩ => ?_))
    · have ha : wE K (tCB (fun xs H Q => ∃ i, xs = [V.int i] ∧ Q (V.int (if i < 0 then -i else i)) H) (tCons (tVar 2) tNil)) [.dat d, .dat (.int (k : Nat)), .dat (.int z), .dat (.int (s : Nat)), d4] fun d' ρ' => ∃ a : Nat, d' = .int (a : Nat) ∧ ρ' = [.dat d, .dat (.int (k : Nat)), .dat (.int z), .dat (.int (s : Nat)), d4] := w_cb ca_abs (w_cons (w_var rfl (w_nil ⟨z, rfl, z.natAbs, rfl, rfl⟩)))
      have h0 : wE K (tC (V.int 0)) [.dat d, .dat (.int (k : Nat)), .dat (.int z), .dat (.int (s : Nat)), d4] fun d' ρ' => ∃ a : Nat, d' = .int (a : Nat) ∧ ρ' = [.dat d, .dat (.int (k : Nat)), .dat (.int z), .dat (.int (s : Nat)), d4] := w_c ⟨0, rfl, rfl⟩
      refine w_if (w_or (w_test (w_op od_I0 (w_var rfl (w_c ⟨_, _, rfl, rfl, _, rfl, ite_dec (fun _ => ite_true' ha) (fun _ => ?_)⟩)))))
      refine w_test (w_op od_I0 (w_var rfl (w_op od_I (w_c (w_c ⟨_, _, rfl, rfl, ⟨by decide, by decide, by decide⟩, _, _, rfl, rfl, _, rfl, ite_dec (fun _ => ha) (fun _ => h0)⟩)))))
    · subst e1 e2
      refine w_cons (w_var rfl (w_cons (w_c (w_nil ⟨show 3 ≤ 100000 by decide, (a, s, 0), rfl, hs, Nat.le_refl 0⟩))))
theorem O_law_right (T : Tx K mg) (O_law_sip : OkDM Pr w K mg base 1 1 "_law_sip" ["_law_mug_here", "_law_top"] S_sip) (O_law_body : OkDM Pr w K mg base 4 36 "_law_body" ["_law_mug_here", "_law_tall", "_law_wide"] S_body) (O_law_heads : OkDM Pr w K mg base 2 3 "_law_heads" ["_law_mug_here", "_law_wide"] S_heads) (O_law_aim : OkDM Pr w K mg base 3 14 "_law_aim" ["_law_mug_here", "_law_body_here"] S_aim) (O_law_table : OkD Pr w K mg base 9 "_law_table" ["_law_heads_here", "_law_body_here"] S_law_table) (O_law_case_right : OkD Pr w K mg base 12 "_law_case_right" ["_law_mine", "_law_body_here", "_law_aim_here", "_law_is_small"] S_case_right) :
    OkDM Pr w K mg base 13 110 "_law_right" ["_law_mug_here"] S_right := by
  refine okm_mk T.f_law_right sc_law_right (fun ds P ⟨e, _⟩ => by rw [e]; rfl) (fun f cdv A outer s H E hr => ⟨_, 
    (pss_cons (ps_for PassesOwn.never rfl (kpi_list K (pe_lst (pa_cons pe_bl (pa_cons pe_bl pa_nil)))) (pg_nameA (i := 1) sc_law_right.nd) (pss_cons (ps_par (i := 2) (j := 3) rfl sc_law_right.nd rfl rfl (by decide) rfl rfl (pa_cons (pe_ok O_law_sip (hr.mono (by decide)) (pa_cons (pv 0) (pa_cons pe_int pa_nil))) (pa_cons (pe_ok O_law_sip (hr.mono (by decide)) (pa_cons (pv 0) (pa_cons pe_int pa_nil))) pa_nil)) (by rfl))
      (pss_cons (ps_setA (i := 4) sc_law_right.nd (pe_ok O_law_body (hr.mono (by decide)) (pa_cons (pv 0) (pa_cons (pe_op op_add (pv 2) (pe_ifExp (pt_val (pv 1)) pe_int pe_int)) (pa_cons (pe_ifExp (pt_val (pv 1)) (pe_op op_add (pv 3) pe_int) pe_int) pa_nil)))))
      (pss_cons (ps_setA (i := 5) sc_law_right.nd (pe_ok O_law_table (hr.mono (by decide)) (pa_cons (pe_ok O_law_heads (hr.mono (by decide)) (pa_cons (pv 0) (pa_cons (pe_callB (kcall_len K) rfl T.z_len PySem.boot_len (pa_cons (pe_ix (kix_seq K) (pv 4) pe_int (fun _ _ => rfl)) pa_nil)) pa_nil))) (pa_cons (pv 4) pa_nil))))
      (pss_one (ps_if (pt_not (pt_val (pe_ok O_law_case_right (hr.mono (by decide)) (pa_cons (pv 5) (pa_cons (pv 4) (pa_cons (pe_ok O_law_aim (hr.mono (by decide)) (pa_cons (pv 0) (pa_cons (pv 4) pa_nil))) (pa_cons (pv 1) pa_nil))))))) (pss_one (ps_ret pe_bl)) pss_nil))))))
      (pss_one (ps_ret pe_bl))),
    fun x kk ds P ok cap ⟨e, p⟩ => ?_⟩) fun _ _ _ _ _ _ us hl => match us, hl with | [_], _ => rfl
  subst e
  unfold mugCap at cap
  refine m_seq (m_for (i_list (w_lst (w_cons (w_c (w_cons (w_c (w_nil ⟨show 2 ≤ 100000 by decide, _, rfl, ?_⟩))))))))
  refine ⟨[1], fun i ρ => Stop (∃ x d1 d2 d3 d4 d5, ρ = [.own (mugD x), d1, d2, d3, d4, d5] ∧ MugOk x (kk + 55 * i)), by decide, stop ⟨x, .any, .any, .any, .any, .any, rfl, ok⟩, fun i e ρ he hp => ?_, fun ρ hp => ?_⟩
  · obtain ⟨x0, d1, d2, d3, d4, d5, e2, ok0⟩ := hp.go
    subst e2
    have hi : i < 2 := (List.getElem?_eq_some_iff.mp he).1
    obtain ⟨sm, rfl⟩ : ∃ sm : Bool, e = .bl sm := by
      rcases (show i = 0 ∨ i = 1 by omega) with z | z <;> subst z
      · exact ⟨true, (Option.some.inj he).symm⟩
      · exact ⟨false, (Option.some.inj he).symm⟩
    refine g_name (by decide) ?_
    refine m_seq (m_par (by decide) (by decide) (w_cons (w_callM rfl (w_cons (w_c (w_nil ⟨x0, _, rfl, ok0, by unfold mugCap; omega, 3, rfl, by decide, by decide, fun a ha x1 ok1 => ?_⟩))))))
    refine w_cons (w_callM rfl (w_cons (w_c (w_nil ⟨x1, _, rfl, ok1, by unfold mugCap; omega, 3, rfl, by decide, by decide, fun b hb x2 ok2 => ?_⟩))))
    refine w_nil ⟨_, _, rfl, ?_⟩
    refine wS0_env [.own (mugD x2), .dat (.bl sm), .dat (.int (a : Nat)), .dat (.int (b : Nat)), .any, .any] (by walk_at "wk") ?_
    obtain ⟨t, ht⟩ : ∃ t : Nat, t = a + (if sm = true then 1 else 4) := ⟨_, rfl⟩
    obtain ⟨w', hw⟩ : ∃ w' : Nat, w' = (if sm = true then b + 1 else 2) := ⟨_, rfl⟩
    have ht1 : 1 ≤ t ∧ t ≤ 6 ∧ (sm = true → t ≤ 3) := by cases sm <;> simp at ht <;> simp <;> omega
    have hw1 : 1 ≤ w' ∧ w' ≤ 3 := by cases sm <;> simp at hw <;> omega
    refine m_seq (m_set (by decide) (w_callM rfl (w_cons (w_hide (d := .int (t : Nat)) ?_ (w_cons (w_hide (d := .int (w' : Nat)) ?_ (w_nil ⟨x2, _, rfl, ok2, by unfold mugCap; omega, t, w', rfl, ht1.2.1, hw1.2, fun B hB x3 ok3 => ?_⟩)))))))
    · cases sm with
      | true => exact w_op od_I0 (w_var rfl (w_if (w_B (w_var rfl ⟨_, rfl, ite_true' (w_c ⟨_, _, rfl, rfl, by rw [ht]; rfl, rfl⟩)⟩))))
      | false => exact w_op od_I0 (w_var rfl (w_if (w_B (w_var rfl ⟨_, rfl, ite_false' (w_c ⟨_, _, rfl, rfl, by rw [ht]; rfl, rfl⟩)⟩))))
    · cases sm with
      | true => exact w_if (w_B (w_var rfl ⟨_, rfl, ite_true' (w_op od_I0 (w_var rfl (w_c ⟨_, _, rfl, rfl, by rw [hw]; rfl, rfl⟩)))⟩))
      | false => exact w_if (w_B (w_var rfl ⟨_, rfl, ite_false' (w_c ⟨by rw [hw]; rfl, rfl⟩)⟩))
    refine wS0_env [.own (mugD x3), .dat (.bl sm), .any, .any, .dat (bodyD t w' B), .any] (by walk_at "wk") ?_
    have hl : (strD w' (B 0)).length = w' := by unfold strD; rw [seqD_len]
    refine m_seq (m_set (by decide) (w_call (w_cons (w_callM rfl (w_cons (w_cb ca_len (w_cons (w_op od_ix (w_var rfl (w_c ⟨_, _, _, rfl, rfl, seqD_atI (i := 0) (show 0 < t by omega), w_nil ⟨_, _, rfl, rfl, w_nil ⟨x3, _, rfl, ok3, by unfold mugCap; omega, w', by rw [hl], hw1.2, fun hd hh x4 ok4 => ?_⟩⟩⟩))))))))))
    have hT := tab_ok ht1.1 ht1.2.1 hw1.1 hw1.2 hh hB
    refine w_cons (w_var rfl (w_nil ⟨t, w', hd, B, rfl, hT, ?_⟩))
    refine wS0_env [.own (mugD x4), .dat (.bl sm), .any, .any, .dat (bodyD t w' B), .dat (tabD t w' hd nmT B)] (by walk_at "wk") ?_
    refine m_ifS (w_not (w_B (w_call (w_cons (w_var rfl (w_cons (w_var rfl (w_cons (w_callM rfl (w_cons (w_var rfl (w_nil ⟨x4, _, rfl, ok4, by unfold mugCap; omega, t, w', B, rfl, ht1.1, ht1.2.1, hw1.2, hB, fun G hG x5 ok5 => ?_⟩))))))))))))
    refine w_cons (w_var rfl (w_nil ⟨t, w', hd, nmT, B, G, sm, rfl, hT, hG, ht1.2.2, _, rfl, ite_nt (m_next ?_)⟩))
    exact stop ⟨x5, _, _, _, _, _, rfl, ok5.mono (by omega)⟩
  · obtain ⟨x0, d1, d2, d3, d4, d5, e2, ok0⟩ := hp.go
    subst e2
    exact m_ret (w_c ⟨x0, rfl, ok0.mono (show kk + 55 * 2 ≤ kk + 110 by omega), p⟩)
theorem okF_law (T : Tx K mg) (O_law_mug : Ok Pr w K mg base 1 "_law_mug" ["_law_cells", "_law_k"] (spNew K S_mugArgs)) (O_law_right : OkDM Pr w K mg base 13 110 "_law_right" ["_law_mug_here"] S_right) {f : Addr} {fd : FuncData} (F : Fun K "law" "law" s_law f fd) : FnOk Pr w K mg base CX0 14 f fd ["_law_cells"] (spD K S_law) := by
  refine okD F sc_law (fun ds P ⟨a, b, e, _⟩ => by rw [e]; rfl) (fun cdv A outer s H E hr => ⟨_, 
    (pss_one (ps_ret (pe_callB (kcr_all K) rfl T.z_all (by decide +kernel) (pa_cons (pe_lc (own := [("_law_k", 1)]) rfl sc_law.nd (pi_range1 rfl T.z_range (pa_cons pe_int pa_nil)) (blkOk_by (by kernel_rfl)) (by intro _ _ _ _ _; exact pg_nameA (i := 1) sc_law.nd) (by intro _ _ _ _ _; exact pts_nil) (by intro _ _ _ _ _; exact (pe_ok O_law_right (hr.mono (by decide)) (pa_cons (pe_ok O_law_mug (hr.mono (by decide)) (pa_cons (pv 0) (pa_cons (pv 1) pa_nil))) pa_nil)))) pa_nil)))),
    fun ds P ⟨d, cs, e, hd, hcs, p⟩ => ?_⟩)
  subst e
  refine w_ret (w_cb ca_all (w_cons (w_lc (i_rng1 (w_cons (w_c (w_nil ⟨_, rfl, ⟨by decide, by decide⟩, ?_⟩)))))))
  refine lcd_trues (show 2 ≤ 100000 by decide) rfl (fun i e he => ?_) ?_
  · obtain ⟨hi, rfl⟩ := nums_at he
    have hi : i < 2 := hi
    refine g_name (by decide) (w_yes ⟨rfl, w_callNew (w_cons (w_var rfl (w_cons (w_var rfl (w_nil ⟨⟨d, cs, i, by rw [Int.zero_add], hd, hcs, by omega⟩, by decide, rfl, rfl, rfl⟩)))))⟩)
  refine w_nil ⟨_, rfl, ?_⟩
  rw [all_trues]
  exact p
end
end Cs
set_option Elab.async false
set_option linter.all false
set_option maxRecDepth 100000
set_option maxHeartbeats 8000000
namespace Cs
open PySem PySem.Spec PyProof.Rows L2 StX Dl Mx
theorem law_ok {Pr : Program} {w : World} {K : PySem.W.Frag} {mg : Str → Option Value} {base : Heap} {f : Addr} {fd : FuncData} (T : Tx K mg) (F : Fun K "law" "law" s_law f fd) : FnOk Pr w K mg base CX0 14 f fd ["_law_cells"] (spD K S_law) := by
  have O_common := Cs.O_common (Pr := Pr) (w := w) (base := base) T
  have O_lowest := Cs.O_lowest (Pr := Pr) (w := w) (base := base) T O_common
  have O_times := Cs.O_times (Pr := Pr) (w := w) (base := base) T O_lowest
  have O_minus := Cs.O_minus (Pr := Pr) (w := w) (base := base) T O_lowest
  have O_is_above := Cs.O_is_above (Pr := Pr) (w := w) (base := base) T
  have O_over := Cs.O_over (Pr := Pr) (w := w) (base := base) T O_times
  have O_less := Cs.O_less (Pr := Pr) (w := w) (base := base) T O_minus O_times
  have O_Frame_init := Cs.O_Frame_init (Pr := Pr) (w := w) (base := base) T
  have O_Frame_turned := Cs.O_Frame_turned (Pr := Pr) (w := w) (base := base) T O_Frame_init O_over O_less
  have O_Frame_prices := Cs.O_Frame_prices (Pr := Pr) (w := w) (base := base) T O_less
  have O_Frame_leaving := Cs.O_Frame_leaving (Pr := Pr) (w := w) (base := base) T O_over O_is_above
  have O_settled := Cs.O_settled (Pr := Pr) (w := w) (base := base) T O_Frame_prices O_Frame_leaving O_Frame_turned
  have O_Outcome_init := Cs.O_Outcome_init (Pr := Pr) (w := w) (base := base) T
  have O_without_fills := Cs.O_without_fills (Pr := Pr) (w := w) (base := base) T O_Frame_turned
  have O_begun := Cs.O_begun (Pr := Pr) (w := w) (base := base) T O_times
  have O_is_whole := Cs.O_is_whole (Pr := Pr) (w := w) (base := base) T
  have O_is_integer := Cs.O_is_integer (Pr := Pr) (w := w) (base := base) T O_is_whole
  have O_is_tuple_of := Cs.O_is_tuple_of (Pr := Pr) (w := w) (base := base) T
  have O_is_name := Cs.O_is_name (Pr := Pr) (w := w) (base := base) T
  have O_is_stretch := Cs.O_is_stretch (Pr := Pr) (w := w) (base := base) T O_is_tuple_of O_is_integer
  have O_is_end_stretch := Cs.O_is_end_stretch (Pr := Pr) (w := w) (base := base) T O_is_stretch
  have O_are_signs := Cs.O_are_signs (Pr := Pr) (w := w) (base := base) T O_is_tuple_of O_is_whole
  have O_signs_of := Cs.O_signs_of (Pr := Pr) (w := w) (base := base) T
  have O_solved := Cs.O_solved (Pr := Pr) (w := w) (base := base) T O_Frame_init O_settled O_without_fills O_Outcome_init O_begun O_minus
  have O_Table_columns := Cs.O_Table_columns (Pr := Pr) (w := w) (base := base) T
  have O_Table_rows := Cs.O_Table_rows (Pr := Pr) (w := w) (base := base) T
  have O_check_table := Cs.O_check_table (Pr := Pr) (w := w) (base := base) T
  have O_check_signs := Cs.O_check_signs (Pr := Pr) (w := w) (base := base) T O_are_signs
  have O_end_row := Cs.O_end_row (Pr := Pr) (w := w) (base := base) T
  have O_corner_of := Cs.O_corner_of (Pr := Pr) (w := w) (base := base) T O_end_row
  have O_corner := Cs.O_corner (Pr := Pr) (w := w) (base := base) T O_check_table O_check_signs O_corner_of
  have O_check_columns := Cs.O_check_columns (Pr := Pr) (w := w) (base := base) T O_is_name
  have O_check_target := Cs.O_check_target (Pr := Pr) (w := w) (base := base) T O_is_tuple_of O_is_stretch O_Table_columns
  have O_check_question := Cs.O_check_question (Pr := Pr) (w := w) (base := base) T O_check_table O_check_target
  have O_is_row := Cs.O_is_row (Pr := Pr) (w := w) (base := base) T O_is_tuple_of O_is_name O_is_end_stretch
  have O_check_rows := Cs.O_check_rows (Pr := Pr) (w := w) (base := base) T O_is_row
  have O_Table_init := Cs.O_Table_init (Pr := Pr) (w := w) (base := base) T O_check_columns O_check_rows
  have O_ends_at := Cs.O_ends_at (Pr := Pr) (w := w) (base := base) T O_Table_rows
  have O_no_prices := Cs.O_no_prices (Pr := Pr) (w := w) (base := base) T O_Table_rows
  have O_mix_in := Cs.O_mix_in (Pr := Pr) (w := w) (base := base) T
  have O_most_row := Cs.O_most_row (Pr := Pr) (w := w) (base := base) T O_ends_at
  have O_least_row := Cs.O_least_row (Pr := Pr) (w := w) (base := base) T O_ends_at
  have O_corner_rows := Cs.O_corner_rows (Pr := Pr) (w := w) (base := base) T O_most_row O_least_row
  have O_cheapest_of := Cs.O_cheapest_of (Pr := Pr) (w := w) (base := base) T O_Table_rows O_solved
  obtain ⟨O_corner_mix, KO_corner_mix⟩ := Cs.O_corner_mix (Pr := Pr) (w := w) (base := base) T O_check_question O_check_signs O_mix_in O_cheapest_of O_corner_rows O_no_prices
  have O_all_corners := Cs.O_all_corners (Pr := Pr) (w := w) (base := base) T O_cheapest_of O_signs_of O_corner_rows O_Table_columns
  have O_barring_of := Cs.O_barring_of (Pr := Pr) (w := w) (base := base) T O_all_corners O_no_prices
  have O_is_served := Cs.O_is_served (Pr := Pr) (w := w) (base := base) T O_check_question O_barring_of
  obtain ⟨O_barring, KO_barring⟩ := Cs.O_barring (Pr := Pr) (w := w) (base := base) T O_check_question O_barring_of
  have O_law_sip := Cs.O_law_sip (Pr := Pr) (w := w) (base := base) T
  have O_law_of := Cs.O_law_of (Pr := Pr) (w := w) (base := base) T O_law_sip
  have O_law_stretch := Cs.O_law_stretch (Pr := Pr) (w := w) (base := base) T O_law_sip O_law_of
  have O_law_body := Cs.O_law_body (Pr := Pr) (w := w) (base := base) T O_law_stretch
  have O_law_heads := Cs.O_law_heads (Pr := Pr) (w := w) (base := base) T O_law_sip
  have O_law_aim := Cs.O_law_aim (Pr := Pr) (w := w) (base := base) T O_law_of
  have O_law_low := Cs.O_law_low (Pr := Pr) (w := w) (base := base) T
  have O_law_plus := Cs.O_law_plus (Pr := Pr) (w := w) (base := base) T O_law_low
  have O_law_is_less := Cs.O_law_is_less (Pr := Pr) (w := w) (base := base) T
  have O_law_sum := Cs.O_law_sum (Pr := Pr) (w := w) (base := base) T O_law_plus
  have O_law_marks := Cs.O_law_marks (Pr := Pr) (w := w) (base := base) T
  have O_law_ends := Cs.O_law_ends (Pr := Pr) (w := w) (base := base) T
  have O_law_wants := Cs.O_law_wants (Pr := Pr) (w := w) (base := base) T O_law_ends
  have O_law_cuts := Cs.O_law_cuts (Pr := Pr) (w := w) (base := base) T
  have O_law_keeps := Cs.O_law_keeps (Pr := Pr) (w := w) (base := base) T O_law_is_less O_law_sum
  have O_law_is_blend := Cs.O_law_is_blend (Pr := Pr) (w := w) (base := base) T O_law_sum O_law_low
  have O_law_bars := Cs.O_law_bars (Pr := Pr) (w := w) (base := base) T O_law_sum O_law_low
  have O_law_spots := Cs.O_law_spots (Pr := Pr) (w := w) (base := base) T O_law_cuts O_law_low
  have O_law_table := Cs.O_law_table (Pr := Pr) (w := w) (base := base) T O_Table_init
  have O_law_case_right := Cs.O_law_case_right (Pr := Pr) (w := w) (base := base) T O_law_marks O_corner O_corner_mix KO_corner_mix KO_barring O_law_bars O_law_wants O_is_served O_law_sum O_law_spots O_law_is_blend O_law_keeps
  have O_law_mug := Cs.O_law_mug (Pr := Pr) (w := w) (base := base) T
  have O_law_right := Cs.O_law_right (Pr := Pr) (w := w) (base := base) T O_law_sip O_law_body O_law_heads O_law_aim O_law_table O_law_case_right
  exact okF_law T O_law_mug O_law_right F
theorem law_end {K : PySem.W.Frag} {H : Hp} {a : Addr} {ns : List Int} (hl : ns.length ≤ 63) (h : SqL K H a (ns.map V.int)) : spD K S_law [.ref a] H (fun v _ => v = .bl true) fun _ _ _ => False := by
  refine ⟨H, [.rd (ns.map D.int)], Same.refl _, ⟨_, _, rfl, ⟨a, _, rfl, h, RpL.ints.mpr rfl⟩, rfl⟩, fun d => d = .bl true, ⟨_, ns, rfl, rfl, by omega, rfl⟩, fun y d Hk' H2' hd _ _ r => ?_⟩
  subst hd
  exact r
end Cs
open PySem PySem.W
    PySem.Calls PyProof.Rows
set_option maxHeartbeats 0
theorem Fn.hw : Fn.R.toRowW.promised := by w_witness2
theorem Fn.hc : WalkO Hd.qv Hd.names (XL Hd.qv []) Hd.hk.says Fn.R.toRowW Fn.dl [] (fun f vs => PySem.call f vs) := by
  refine L2.walk_ofE (l := PySem.Challenge.rw_cornersure_k29_whole_corner_mixes_and_wh) (n := 63) (k := 14) (x := "_law_cells") (CX := L2.CX0) rfl (by decide) Fn.e11 ⟨rfl, by decide, by decide⟩ ?F (fun _ _ _ _ z => z)
  intro w mg fa h Y G hmg0
  obtain ⟨K, KX, c⟩ := Y
  have hmg : mg ("law" : PySem.Str) = some (.ref fa) :=
      by
    rw [← Fn.e10]
    exact hmg0
  have T := Hd.tx_of KX G c
  obtain ⟨f, fd, F, hm⟩ := T.f_law
  obtain rfl : f = fa := by
    rw [hmg] at hm
    injection hm with hm
    injection hm with hm
    exact hm.symm
  refine ⟨K, fd, Dl.spD K Cs.S_law, KX, fun s u => ?_, fun H a ns hl _ hS => Cs.law_end hl hS, fun base _ _ => Cs.law_ok T F⟩
  obtain ⟨oc, od, kV, doc, pm, an, cdv, ct, osl, rfl, lk, hcd⟩ :=
      F.ex
  exact .of_eq rfl

theorem PySem.Challenge.cw_cornersure_k29_whole_corner_mixes_and_wh_holds : PySem.Challenge.rw_cornersure_k29_whole_corner_mixes_and_wh.Holds := by
  exact holds_law Fn.e0 fun _ => HandSHeadRun.head_any (r := Fn.R) (q := Hd.qv) (H := Hd.hk) (ob := Hd.ob) (M := 7000) (loose := Hd.names) (d := Fn.dl) (kwd := []) Hd.ob_eq Fn.e1 Fn.e2 Hd.run Fn.e3 Fn.e4 Fn.e5 Fn.e6 Fn.e7 Fn.e8 Fn.e9 Fn.hw Fn.hc
