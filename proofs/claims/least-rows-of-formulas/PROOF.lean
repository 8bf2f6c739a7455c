import PyProof.Rows.All
import Wide.All
import OpenK.AllK
import Wide.FinOn
import HandS.ForMost
import HandS.Walk
import HandS.Zip
import HandS.TupAny
import HandS.TupMul
import HandS.Style
import HandS.Flow
import HandS.TupSets
import HandS.IsInst
import HandS.Wide
import HandS.EndBits
import KE.GoesMore
import KE.DatumOrd
import KE.KRevSl
import HandS.IterVal
import KE.KeyNested
import KE.KDictDisplayH
import PyProof.ReprRoads
import PySem.Challenge.RW_stairyard_k12_whole_least_rows_of_formul
import HandS.Deep
set_option Elab.async false
set_option linter.all false
set_option maxRecDepth 100000
namespace SY
/-! ### rows and stairs -/
def stairC : List Int → Int → List Int → List Int
  | u :: us, c, n :: ns => (u * c + n) :: stairC us (u * c + n) ns
  | _, _, _ => []
def stair (us : List Int) : List Int → List Int
  | [] => []
  | n :: ns => n :: stairC us n ns
def rowC : List Int → Int → List Int → List Int
  | u :: us, c, s :: ss => (s - u * c) :: rowC us s ss
  | _, _, _ => []
def rowOf (us : List Int) : List Int → List Int
  | [] => []
  | s :: ss => s :: rowC us s ss
def leB : List Int → List Int → Bool
  | x :: xs, y :: ys => decide (x ≤ y) && leB xs ys
  | _, _ => true
def addL : List Int → List Int → List Int
  | x :: xs, y :: ys => (x + y) :: addL xs ys
  | _, _ => []
def subL : List Int → List Int → List Int
  | x :: xs, y :: ys => (x - y) :: subL xs ys
  | _, _ => []
def maxL : List Int → List Int → List Int
  | x :: xs, y :: ys => (if y > x then y else x) :: maxL xs ys
  | _, _ => []
def nonneg (l : List Int) : Prop := ∀ x ∈ l, 0 ≤ x
def pos (l : List Int) : Prop := ∀ x ∈ l, 1 ≤ x

theorem nonneg_cons {x : Int} {l : List Int} : nonneg (x :: l) ↔ 0 ≤ x ∧ nonneg l := by
  unfold nonneg
  simp
theorem pos_cons {x : Int} {l : List Int} : pos (x :: l) ↔ 1 ≤ x ∧ pos l := by
  unfold pos
  simp

theorem stairC_len : ∀ (us : List Int) (c : Int) (ns : List Int), ns.length = us.length → (stairC us c ns).length = us.length
  | [], _, [], _ => rfl
  | u :: us, c, n :: ns, h => by
    simp only [stairC, List.length_cons] at h ⊢
    rw [stairC_len us _ ns (by omega)]
theorem stair_len {us r : List Int} (h : r.length = us.length + 1) : (stair us r).length = us.length + 1 := by
  cases r with
  | nil => simp at h
  | cons n ns =>
    simp only [List.length_cons] at h
    simp only [stair, List.length_cons]
    rw [stairC_len us _ ns (by omega)]
theorem rowC_len : ∀ (us : List Int) (c : Int) (ns : List Int), ns.length = us.length → (rowC us c ns).length = us.length
  | [], _, [], _ => rfl
  | u :: us, c, n :: ns, h => by
    simp only [rowC, List.length_cons] at h ⊢
    rw [rowC_len us _ ns (by omega)]
theorem rowOf_len {us r : List Int} (h : r.length = us.length + 1) : (rowOf us r).length = us.length + 1 := by
  cases r with
  | nil => simp at h
  | cons n ns =>
    simp only [List.length_cons] at h
    simp only [rowOf, List.length_cons]
    rw [rowC_len us _ ns (by omega)]
theorem rowC_stairC : ∀ (us : List Int) (c : Int) (ns : List Int), ns.length = us.length → rowC us c (stairC us c ns) = ns
  | [], _, [], _ => rfl
  | u :: us, c, n :: ns, h => by
    simp only [List.length_cons] at h
    simp only [stairC, rowC]
    rw [rowC_stairC us _ ns (by omega), show u * c + n - u * c = n by omega]
theorem rowOf_stair {us r : List Int} (h : r.length = us.length + 1) : rowOf us (stair us r) = r := by
  cases r with
  | nil => rfl
  | cons n ns =>
    simp only [List.length_cons] at h
    simp only [stair, rowOf]
    rw [rowC_stairC us _ ns (by omega)]
theorem stairC_rowC : ∀ (us : List Int) (c : Int) (ns : List Int), ns.length = us.length → stairC us c (rowC us c ns) = ns
  | [], _, [], _ => rfl
  | u :: us, c, n :: ns, h => by
    simp only [List.length_cons] at h
    simp only [stairC, rowC]
    rw [show u * c + (n - u * c) = n by omega, stairC_rowC us _ ns (by omega)]
theorem stair_rowOf {us r : List Int} (h : r.length = us.length + 1) : stair us (rowOf us r) = r := by
  cases r with
  | nil => rfl
  | cons n ns =>
    simp only [List.length_cons] at h
    simp only [stair, rowOf]
    rw [stairC_rowC us _ ns (by omega)]

/-! the walk's own steps -/
theorem stairC_next : ∀ (us : List Int) (c : Int) (ns : List Int) (i : Nat) (u n s : Int), us[i]? = some u → ns[i]? = some n → (c :: stairC us c ns)[i]? = some s → (stairC us c ns)[i]? = some (u * s + n)
  | [], _, _, _, _, _, _, h, _, _ => by simp at h
  | _ :: _, _, [], _, _, _, _, _, h, _ => by simp at h
  | u' :: us, c, n' :: ns, 0, u, n, s, h1, h2, h3 => by
    simp at h1 h2 h3
    subst h1 h2 h3
    rfl
  | u' :: us, c, n' :: ns, i + 1, u, n, s, h1, h2, h3 => by
    simp only [stairC, List.getElem?_cons_succ] at h1 h2 h3 ⊢
    exact stairC_next us _ ns i u n s h1 h2 h3
theorem stair_next {us r : List Int} {i : Nat} {u n s : Int} (h1 : us[i]? = some u) (h2 : r[i + 1]? = some n) (h3 : (stair us r)[i]? = some s) : (stair us r)[i + 1]? = some (u * s + n) := by
  cases r with
  | nil => simp at h2
  | cons m ns =>
    simp only [List.getElem?_cons_succ] at h2
    simp only [stair, List.getElem?_cons_succ] at h3 ⊢
    exact stairC_next us m ns i u n s h1 h2 h3
theorem rowC_next : ∀ (us : List Int) (c : Int) (ns : List Int) (i : Nat) (u s t : Int), us[i]? = some u → (c :: ns)[i]? = some s → ns[i]? = some t → (rowC us c ns)[i]? = some (t - u * s)
  | [], _, _, _, _, _, _, h, _, _ => by simp at h
  | _ :: _, _, [], _, _, _, _, _, _, h => by simp at h
  | u' :: us, c, n' :: ns, 0, u, n, s, h1, h2, h3 => by
    simp at h1 h2 h3
    subst h1 h2 h3
    rfl
  | u' :: us, c, n' :: ns, i + 1, u, n, s, h1, h2, h3 => by
    simp only [rowC, List.getElem?_cons_succ] at h1 h2 h3 ⊢
    exact rowC_next us _ ns i u n s h1 h2 h3
theorem rowOf_next {us r : List Int} {i : Nat} {u s t : Int} (h1 : us[i]? = some u) (h2 : r[i]? = some s) (h3 : r[i + 1]? = some t) : (rowOf us r)[i + 1]? = some (t - u * s) := by
  cases r with
  | nil => simp at h2
  | cons m ns =>
    simp only [List.getElem?_cons_succ] at h3
    simp only [rowOf, List.getElem?_cons_succ]
    exact rowC_next us m ns i u s t h1 h2 h3

/-! ### the order by places -/
theorem leB_iff : ∀ a b : List Int, leB a b = true ↔ ∀ (i : Nat) (x y : Int), a[i]? = some x → b[i]? = some y → x ≤ y
  | [], _ => by simp [leB]
  | _ :: _, [] => by simp [leB]
  | x :: xs, y :: ys => by
    simp only [leB, Bool.and_eq_true, decide_eq_true_eq]
    rw [leB_iff xs ys]
    constructor
    · rintro ⟨h1, h2⟩ i u v hu hv
      cases i with
      | zero => simp at hu hv; omega
      | succ i => simp at hu hv; exact h2 i u v hu hv
    · intro h
      exact ⟨h 0 x y rfl rfl, fun i u v hu hv => h (i + 1) u v (by simpa using hu) (by simpa using hv)⟩
theorem leB_refl : ∀ a : List Int, leB a a = true
  | [] => rfl
  | x :: xs => by simp [leB, leB_refl xs]
theorem leB_trans : ∀ (a b c : List Int), a.length = b.length → b.length = c.length → leB a b = true → leB b c = true → leB a c = true
  | [], _, _, _, _, _, _ => by simp [leB]
  | x :: xs, y :: ys, z :: zs, h1, h2, h3, h4 => by
    simp only [List.length_cons] at h1 h2
    simp only [leB, Bool.and_eq_true, decide_eq_true_eq] at h3 h4 ⊢
    exact ⟨by omega, leB_trans xs ys zs (by omega) (by omega) h3.2 h4.2⟩
theorem leB_antisymm : ∀ (a b : List Int), a.length = b.length → leB a b = true → leB b a = true → a = b
  | [], [], _, _, _ => rfl
  | x :: xs, y :: ys, h1, h3, h4 => by
    simp only [List.length_cons] at h1
    simp only [leB, Bool.and_eq_true, decide_eq_true_eq] at h3 h4
    rw [leB_antisymm xs ys (by omega) h3.2 h4.2, show x = y by omega]
theorem addL_len : ∀ (a b : List Int), a.length = b.length → (addL a b).length = a.length
  | [], [], _ => rfl
  | x :: xs, y :: ys, h => by
    simp only [List.length_cons] at h
    simp only [addL, List.length_cons]
    rw [addL_len xs ys (by omega)]
theorem subL_len : ∀ (a b : List Int), a.length = b.length → (subL a b).length = a.length
  | [], [], _ => rfl
  | x :: xs, y :: ys, h => by
    simp only [List.length_cons] at h
    simp only [subL, List.length_cons]
    rw [subL_len xs ys (by omega)]
theorem maxL_len : ∀ (a b : List Int), a.length = b.length → (maxL a b).length = a.length
  | [], [], _ => rfl
  | x :: xs, y :: ys, h => by
    simp only [List.length_cons] at h
    simp only [maxL, List.length_cons]
    rw [maxL_len xs ys (by omega)]
theorem addL_get : ∀ (a b : List Int) (i : Nat) (x y : Int), a[i]? = some x → b[i]? = some y → (addL a b)[i]? = some (x + y)
  | [], _, _, _, _, h, _ => by simp at h
  | _ :: _, [], _, _, _, _, h => by simp at h
  | x :: xs, y :: ys, 0, u, v, h1, h2 => by
    simp at h1 h2
    subst h1 h2
    rfl
  | x :: xs, y :: ys, i + 1, u, v, h1, h2 => by
    simp only [addL, List.getElem?_cons_succ] at h1 h2 ⊢
    exact addL_get xs ys i u v h1 h2
theorem subL_get : ∀ (a b : List Int) (i : Nat) (x y : Int), a[i]? = some x → b[i]? = some y → (subL a b)[i]? = some (x - y)
  | [], _, _, _, _, h, _ => by simp at h
  | _ :: _, [], _, _, _, _, h => by simp at h
  | x :: xs, y :: ys, 0, u, v, h1, h2 => by
    simp at h1 h2
    subst h1 h2
    rfl
  | x :: xs, y :: ys, i + 1, u, v, h1, h2 => by
    simp only [subL, List.getElem?_cons_succ] at h1 h2 ⊢
    exact subL_get xs ys i u v h1 h2
theorem maxL_get : ∀ (a b : List Int) (i : Nat) (x y : Int), a[i]? = some x → b[i]? = some y → (maxL a b)[i]? = some (if y > x then y else x)
  | [], _, _, _, _, h, _ => by simp at h
  | _ :: _, [], _, _, _, _, h => by simp at h
  | x :: xs, y :: ys, 0, u, v, h1, h2 => by
    simp at h1 h2
    subst h1 h2
    rfl
  | x :: xs, y :: ys, i + 1, u, v, h1, h2 => by
    simp only [maxL, List.getElem?_cons_succ] at h1 h2 ⊢
    exact maxL_get xs ys i u v h1 h2
/-- the least of the differences tells the order -/
theorem sub_nonneg : ∀ (a b : List Int), a.length = b.length → ((∀ y ∈ subL a b, 0 ≤ y) ↔ leB b a = true)
  | [], [], _ => by simp [subL, leB]
  | x :: xs, y :: ys, h => by
    simp only [List.length_cons] at h
    have ih := sub_nonneg xs ys (by omega)
    simp only [subL, leB, List.mem_cons, forall_eq_or_imp, Bool.and_eq_true, decide_eq_true_eq]
    rw [ih]
    constructor
    · rintro ⟨h1, h2⟩; exact ⟨by omega, h2⟩
    · rintro ⟨h1, h2⟩; exact ⟨by omega, h2⟩
theorem min_le {a b : List Int} {m : Int} (hl : a.length = b.length) (h1 : m ∈ subL a b) (h2 : ∀ y ∈ subL a b, m ≤ y) : decide (0 ≤ m) = leB b a := by
  have e := sub_nonneg a b hl
  cases q : leB b a with
  | true =>
    rw [q] at e
    exact decide_eq_true ((e.mpr rfl) m h1)
  | false =>
    rw [q] at e
    refine decide_eq_false fun h => ?_
    have := e.mp fun y hy => Int.le_trans h (h2 y hy)
    cases this
theorem sub_add : ∀ (a b : List Int), a.length = b.length → addL b (subL a b) = a
  | [], [], _ => rfl
  | x :: xs, y :: ys, h => by
    simp only [List.length_cons] at h
    simp only [subL, addL]
    rw [sub_add xs ys (by omega), show y + (x - y) = x by omega]
theorem add_sub : ∀ (a b : List Int), a.length = b.length → subL (addL b a) b = a
  | [], [], _ => rfl
  | x :: xs, y :: ys, h => by
    simp only [List.length_cons] at h
    simp only [subL, addL]
    rw [add_sub xs ys (by omega), show y + x - y = x by omega]
theorem leB_add_left : ∀ (c a b : List Int), c.length = a.length → a.length = b.length → leB (addL c a) (addL c b) = leB a b
  | [], [], [], _, _ => rfl
  | z :: zs, x :: xs, y :: ys, h1, h2 => by
    simp only [List.length_cons] at h1 h2
    simp only [addL, leB]
    rw [leB_add_left zs xs ys (by omega) (by omega)]
    congr 1
    exact decide_eq_decide.mpr (by omega)
theorem addL_comm : ∀ (a b : List Int), addL a b = addL b a
  | [], [] => rfl
  | [], _ :: _ => rfl
  | _ :: _, [] => rfl
  | x :: xs, y :: ys => by simp only [addL]; rw [addL_comm xs ys, Int.add_comm]
theorem addL_assoc : ∀ (a b c : List Int), addL (addL a b) c = addL a (addL b c)
  | [], _, _ => rfl
  | _ :: _, [], _ => rfl
  | _ :: _, _ :: _, [] => rfl
  | x :: xs, y :: ys, z :: zs => by simp only [addL]; rw [addL_assoc xs ys zs, Int.add_assoc]
theorem leB_add : ∀ (a b c d : List Int), a.length = c.length → b.length = d.length → a.length = b.length → leB a c = true → leB b d = true → leB (addL a b) (addL c d) = true
  | [], [], [], [], _, _, _, _, _ => rfl
  | x :: a, y :: b, z :: c, t :: d, h1, h2, h3, h4, h5 => by
    simp only [List.length_cons] at h1 h2 h3
    simp only [leB, addL, Bool.and_eq_true, decide_eq_true_eq] at h4 h5 ⊢
    exact ⟨by omega, leB_add a b c d (by omega) (by omega) (by omega) h4.2 h5.2⟩
theorem leB_max : ∀ (a b c : List Int), a.length = b.length → b.length = c.length → leB (maxL a b) c = (leB a c && leB b c)
  | [], [], [], _, _ => rfl
  | x :: xs, y :: ys, z :: zs, h1, h2 => by
    simp only [List.length_cons] at h1 h2
    simp only [maxL, leB]
    rw [leB_max xs ys zs (by omega) (by omega)]
    have e : decide ((if y > x then y else x) ≤ z) = (decide (x ≤ z) && decide (y ≤ z)) := by
      by_cases h : y > x
      · rw [if_pos h]
        by_cases h' : y ≤ z
        · rw [decide_eq_true h', decide_eq_true (show x ≤ z by omega)]; rfl
        · rw [decide_eq_false h']; simp
      · rw [if_neg h]
        by_cases h' : x ≤ z
        · rw [decide_eq_true h', decide_eq_true (show y ≤ z by omega)]; rfl
        · rw [decide_eq_false h']; simp
    rw [e]
    cases decide (x ≤ z) <;> cases decide (y ≤ z) <;> cases leB xs zs <;> cases leB ys zs <;> rfl
theorem nonneg_add : ∀ (a b : List Int), nonneg a → nonneg b → nonneg (addL a b)
  | [], _, _, _ => by intro x h; simp [addL] at h
  | _ :: _, [], _, _ => by intro x h; simp [addL] at h
  | x :: xs, y :: ys, h1, h2 => by
    rw [nonneg_cons] at h1 h2
    simp only [addL]
    rw [nonneg_cons]
    exact ⟨by omega, nonneg_add xs ys h1.2 h2.2⟩
theorem nonneg_sub : ∀ (a b : List Int), leB b a = true → nonneg (subL a b)
  | [], _, _ => by intro x h; simp [subL] at h
  | _ :: _, [], _ => by intro x h; simp [subL] at h
  | x :: xs, y :: ys, h => by
    simp only [leB, Bool.and_eq_true, decide_eq_true_eq] at h
    simp only [subL]
    rw [nonneg_cons]
    exact ⟨by omega, nonneg_sub xs ys h.2⟩

/-! ### stairs and the order -/
theorem stairC_add : ∀ (us : List Int) (c d : Int) (a b : List Int), a.length = us.length → b.length = us.length → stairC us (c + d) (addL a b) = addL (stairC us c a) (stairC us d b)
  | [], _, _, [], [], _, _ => rfl
  | u :: us, c, d, x :: xs, y :: ys, h1, h2 => by
    simp only [List.length_cons] at h1 h2
    simp only [addL, stairC]
    have e : u * (c + d) + (x + y) = (u * c + x) + (u * d + y) := by rw [Int.mul_add]; omega
    rw [e, stairC_add us _ _ xs ys (by omega) (by omega)]
theorem stair_add {us a b : List Int} (h1 : a.length = us.length + 1) (h2 : b.length = us.length + 1) : stair us (addL a b) = addL (stair us a) (stair us b) := by
  cases a with
  | nil => simp at h1
  | cons x xs =>
    cases b with
    | nil => simp at h2
    | cons y ys =>
      simp only [List.length_cons] at h1 h2
      simp only [addL, stair]
      rw [stairC_add us _ _ xs ys (by omega) (by omega)]
theorem stairC_mono : ∀ (us : List Int) (c d : Int) (a b : List Int), pos us → a.length = us.length → b.length = us.length → c ≤ d → leB a b = true → leB (stairC us c a) (stairC us d b) = true
  | [], _, _, [], [], _, _, _, _, _ => rfl
  | u :: us, c, d, x :: xs, y :: ys, hu, h1, h2, hc, h => by
    rw [pos_cons] at hu
    simp only [List.length_cons] at h1 h2
    simp only [leB, Bool.and_eq_true, decide_eq_true_eq] at h
    simp only [stairC, leB, Bool.and_eq_true, decide_eq_true_eq]
    have e : u * c ≤ u * d := Int.mul_le_mul_of_nonneg_left hc (by omega)
    exact ⟨by omega, stairC_mono us _ _ xs ys hu.2 (by omega) (by omega) (by omega) h.2⟩
theorem stair_mono {us a b : List Int} (hu : pos us) (h1 : a.length = us.length + 1) (h2 : b.length = us.length + 1) (h : leB a b = true) : leB (stair us a) (stair us b) = true := by
  cases a with
  | nil => simp at h1
  | cons x xs =>
    cases b with
    | nil => simp at h2
    | cons y ys =>
      simp only [List.length_cons] at h1 h2
      simp only [leB, Bool.and_eq_true, decide_eq_true_eq] at h
      simp only [stair, leB, Bool.and_eq_true, decide_eq_true_eq]
      exact ⟨h.1, stairC_mono us _ _ xs ys hu (by omega) (by omega) h.1 h.2⟩
theorem stairC_nonneg : ∀ (us : List Int) (c : Int) (a : List Int), pos us → 0 ≤ c → nonneg a → nonneg (stairC us c a)
  | [], _, _, _, _, _ => by intro x h; simp [stairC] at h
  | _ :: _, _, [], _, _, _ => by intro x h; simp [stairC] at h
  | u :: us, c, x :: xs, hu, hc, h => by
    rw [pos_cons] at hu
    rw [nonneg_cons] at h
    simp only [stairC]
    rw [nonneg_cons]
    have e : 0 ≤ u * c := Int.mul_nonneg (by omega) hc
    exact ⟨by omega, stairC_nonneg us _ xs hu.2 (by omega) h.2⟩
theorem stair_nonneg {us a : List Int} (hu : pos us) (h : nonneg a) : nonneg (stair us a) := by
  cases a with
  | nil => intro x h; simp [stair] at h
  | cons x xs =>
    rw [nonneg_cons] at h
    simp only [stair]
    rw [nonneg_cons]
    exact ⟨h.1, stairC_nonneg us _ xs hu h.1 h.2⟩
/-- the greater one by places of two stairs is a stair -/
theorem rowC_max : ∀ (us : List Int) (c d : Int) (a b : List Int), pos us → 0 ≤ c → 0 ≤ d → nonneg a → nonneg b → nonneg (rowC us (if d > c then d else c) (maxL (stairC us c a) (stairC us d b)))
  | [], _, _, _, _, _, _, _, _, _ => by intro x h; simp [rowC] at h
  | _ :: _, _, _, [], _, _, _, _, _, _ => by intro x h; simp [rowC, stairC, maxL] at h
  | _ :: _, _, _, _ :: _, [], _, _, _, _, _ => by intro x h; simp [rowC, stairC, maxL] at h
  | u :: us, c, d, x :: xs, y :: ys, hu, hc, hd, ha, hb => by
    rw [pos_cons] at hu
    rw [nonneg_cons] at ha hb
    simp only [stairC, maxL, rowC]
    rw [nonneg_cons]
    have e1 : 0 ≤ u * c := Int.mul_nonneg (by omega) hc
    have e2 : 0 ≤ u * d := Int.mul_nonneg (by omega) hd
    refine ⟨?_, rowC_max us _ _ xs ys hu.2 (by omega) (by omega) ha.2 hb.2⟩
    by_cases h : d > c
    · rw [if_pos h]
      have := ha.1
      have := hb.1
      split <;> omega
    · rw [if_neg h]
      have := ha.1
      have := hb.1
      split <;> omega
def higher (us a b : List Int) : List Int := rowOf us (maxL (stair us a) (stair us b))
theorem higher_nonneg {us a b : List Int} (hu : pos us) (h1 : a.length = us.length + 1) (h2 : b.length = us.length + 1) (ha : nonneg a) (hb : nonneg b) : nonneg (higher us a b) := by
  unfold higher
  cases a with
  | nil => simp at h1
  | cons x xs =>
    cases b with
    | nil => simp at h2
    | cons y ys =>
      rw [nonneg_cons] at ha hb
      simp only [stair, maxL, rowOf]
      rw [nonneg_cons]
      refine ⟨?_, rowC_max us x y xs ys hu ha.1 hb.1 ha.2 hb.2⟩
      have := ha.1
      have := hb.1
      split <;> omega
theorem higher_len {us a b : List Int} (h1 : a.length = us.length + 1) (h2 : b.length = us.length + 1) : (higher us a b).length = us.length + 1 := by
  unfold higher
  refine rowOf_len ?_
  rw [maxL_len _ _ (by rw [stair_len h1, stair_len h2]), stair_len h1]
theorem higher_stair {us a b : List Int} (h1 : a.length = us.length + 1) (h2 : b.length = us.length + 1) : stair us (higher us a b) = maxL (stair us a) (stair us b) := by
  unfold higher
  refine stair_rowOf ?_
  rw [maxL_len _ _ (by rw [stair_len h1, stair_len h2]), stair_len h1]

/-! ### totals -/
def lst : List Int → Int
  | [] => 0
  | [x] => x
  | _ :: y :: r => lst (y :: r)
def tot (us r : List Int) : Int := lst (stair us r)
theorem lst_add : ∀ (a b : List Int), a.length = b.length → lst (addL a b) = lst a + lst b
  | [], [], _ => rfl
  | [x], [y], _ => rfl
  | _ :: x :: xs, _ :: y :: ys, h => by
    simp only [List.length_cons] at h
    exact lst_add (x :: xs) (y :: ys) (by simp only [List.length_cons]; omega)
theorem lst_max : ∀ (a b : List Int), a.length = b.length → lst (maxL a b) = if lst b > lst a then lst b else lst a
  | [], [], _ => rfl
  | [x], [y], _ => rfl
  | _ :: x :: xs, _ :: y :: ys, h => by
    simp only [List.length_cons] at h
    exact lst_max (x :: xs) (y :: ys) (by simp only [List.length_cons]; omega)
theorem tot_add {us a b : List Int} (h1 : a.length = us.length + 1) (h2 : b.length = us.length + 1) : tot us (addL a b) = tot us a + tot us b := by
  unfold tot
  rw [stair_add h1 h2, lst_add _ _ (by rw [stair_len h1, stair_len h2])]
theorem tot_higher {us a b : List Int} (h1 : a.length = us.length + 1) (h2 : b.length = us.length + 1) : tot us (higher us a b) = if tot us b > tot us a then tot us b else tot us a := by
  unfold tot
  rw [higher_stair h1 h2, lst_max _ _ (by rw [stair_len h1, stair_len h2])]
theorem stairC_le : ∀ (us : List Int) (c : Int) (a : List Int), pos us → 0 ≤ c → nonneg a → a.length = us.length → ∀ x ∈ c :: stairC us c a, x ≤ lst (c :: stairC us c a)
  | [], c, [], _, _, _, _, x, h => by simp [stairC] at h; simp [stairC, lst, h]
  | u :: us, c, y :: ys, hu, hc, ha, hl, x, h => by
    rw [pos_cons] at hu
    rw [nonneg_cons] at ha
    simp only [List.length_cons] at hl
    have e : u * c ≥ 1 * c := Int.mul_le_mul_of_nonneg_right hu.1 hc
    rw [Int.one_mul] at e
    have ih := stairC_le us (u * c + y) ys hu.2 (by omega) ha.2 (by omega)
    simp only [stairC] at h ⊢
    show x ≤ lst ((u * c + y) :: stairC us (u * c + y) ys)
    rcases List.mem_cons.mp h with h | h
    · have := ih (u * c + y) (List.mem_cons_self ..)
      have := ha.1
      omega
    · exact ih x h
theorem stair_le {us a : List Int} (hu : pos us) (ha : nonneg a) (hl : a.length = us.length + 1) : ∀ x ∈ stair us a, x ≤ tot us a := by
  cases a with
  | nil => simp at hl
  | cons y ys =>
    rw [nonneg_cons] at ha
    simp only [List.length_cons] at hl
    exact stairC_le us y ys hu ha.1 ha.2 (by omega)
theorem row_le_stairC : ∀ (us : List Int) (c : Int) (a : List Int), pos us → 0 ≤ c → nonneg a → a.length = us.length → leB a (stairC us c a) = true
  | [], _, [], _, _, _, _ => rfl
  | u :: us, c, y :: ys, hu, hc, ha, hl => by
    rw [pos_cons] at hu
    rw [nonneg_cons] at ha
    simp only [List.length_cons] at hl
    have e : 0 ≤ u * c := Int.mul_nonneg (by omega) hc
    have := ha.1
    simp only [stairC, leB, Bool.and_eq_true, decide_eq_true_eq]
    exact ⟨by omega, row_le_stairC us _ ys hu.2 (by omega) ha.2 (by omega)⟩
theorem row_le_stair {us a : List Int} (hu : pos us) (ha : nonneg a) (hl : a.length = us.length + 1) : leB a (stair us a) = true := by
  cases a with
  | nil => simp at hl
  | cons y ys =>
    rw [nonneg_cons] at ha
    simp only [List.length_cons] at hl
    simp only [stair, leB, Bool.and_eq_true, decide_eq_true_eq]
    exact ⟨Int.le_refl _, row_le_stairC us y ys hu ha.1 ha.2 (by omega)⟩
theorem row_le_tot {us a : List Int} (hu : pos us) (ha : nonneg a) (hl : a.length = us.length + 1) : ∀ x ∈ a, x ≤ tot us a := by
  intro x hx
  obtain ⟨i, hi, e⟩ := List.mem_iff_getElem.mp hx
  have hs : i < (stair us a).length := by rw [stair_len hl]; omega
  have h1 := (leB_iff _ _).mp (row_le_stair hu ha hl) i x (stair us a)[i] (by rw [← e, List.getElem?_eq_getElem hi]) (List.getElem?_eq_getElem hs)
  exact Int.le_trans h1 (stair_le hu ha hl _ (List.getElem_mem hs))
theorem lst_mono : ∀ (a b : List Int), a.length = b.length → leB a b = true → lst a ≤ lst b
  | [], [], _, _ => Int.le_refl _
  | [x], [y], _, h => by
    simp only [leB, Bool.and_eq_true, decide_eq_true_eq] at h
    exact h.1
  | _ :: x :: xs, _ :: y :: ys, h, q => by
    simp only [List.length_cons] at h
    simp only [leB, Bool.and_eq_true, decide_eq_true_eq] at q
    exact lst_mono (x :: xs) (y :: ys) (by simp only [List.length_cons]; omega) (by simp only [leB, Bool.and_eq_true, decide_eq_true_eq]; exact q.2)

/-! sizes -/
def sizes : List Int → List Int
  | [] => [1]
  | u :: us => (u * (sizes us).headD 1) :: sizes us
def dot : List Int → List Int → Int
  | x :: xs, y :: ys => x * y + dot xs ys
  | _, _ => 0
theorem sizes_ne : ∀ us : List Int, ∃ h t, sizes us = h :: t
  | [] => ⟨1, [], rfl⟩
  | u :: us => ⟨_, _, rfl⟩
theorem sizes_len : ∀ us : List Int, (sizes us).length = us.length + 1
  | [] => rfl
  | u :: us => by simp only [sizes, List.length_cons]; rw [sizes_len us]
theorem sizes_pos : ∀ us : List Int, pos us → pos (sizes us)
  | [], _ => by intro x h; simp [sizes] at h; omega
  | u :: us, hu => by
    rw [pos_cons] at hu
    have ih := sizes_pos us hu.2
    obtain ⟨h, t, e⟩ := sizes_ne us
    simp only [sizes]
    rw [pos_cons]
    refine ⟨?_, ih⟩
    rw [e] at ih ⊢
    rw [pos_cons] at ih
    have : 1 * 1 ≤ u * h := Int.mul_le_mul hu.1 ih.1 (by omega) (by omega)
    simpa using this
theorem lst_sizes : ∀ (us : List Int) (c : Int) (a : List Int), a.length = us.length → lst (c :: stairC us c a) = dot (c :: a) (sizes us)
  | [], c, [], _ => by simp [stairC, lst, dot, sizes]
  | u :: us, c, y :: ys, h => by
    simp only [List.length_cons] at h
    have ih := lst_sizes us (u * c + y) ys (by omega)
    obtain ⟨g, t, e⟩ := sizes_ne us
    simp only [stairC]
    show lst ((u * c + y) :: stairC us (u * c + y) ys) = _
    rw [ih]
    simp only [sizes, e, dot, List.headD_cons]
    rw [Int.add_mul, Int.mul_comm u c, Int.mul_assoc]
    omega
theorem tot_sizes {us a : List Int} (h : a.length = us.length + 1) : tot us a = dot a (sizes us) := by
  cases a with
  | nil => simp at h
  | cons y ys =>
    simp only [List.length_cons] at h
    exact lst_sizes us y ys (by omega)
end SY

namespace SY
/-! ### the order of tuples, sorting -/
def lexLt : List Int → List Int → Bool
  | [], [] => false
  | [], _ :: _ => true
  | _ :: _, [] => false
  | x :: xs, y :: ys => if x = y then lexLt xs ys else decide (x < y)
theorem lex_irrefl : ∀ a : List Int, lexLt a a = false
  | [] => rfl
  | x :: xs => by simp [lexLt, lex_irrefl xs]
theorem lex_tri : ∀ a b : List Int, lexLt a b = false → lexLt b a = false → a = b
  | [], [], _, _ => rfl
  | [], _ :: _, h, _ => by simp [lexLt] at h
  | _ :: _, [], _, h => by simp [lexLt] at h
  | x :: xs, y :: ys, h1, h2 => by
    simp only [lexLt] at h1 h2
    by_cases e : x = y
    · subst e
      rw [if_pos rfl] at h1 h2
      rw [lex_tri xs ys h1 h2]
    · rw [if_neg e] at h1
      rw [if_neg (Ne.symm e)] at h2
      have := of_decide_eq_false h1
      have := of_decide_eq_false h2
      omega
theorem lex_trans : ∀ a b c : List Int, lexLt a b = true → lexLt b c = true → lexLt a c = true
  | [], [], _, h, _ => by simp [lexLt] at h
  | [], _ :: _, [], _, h => by simp [lexLt] at h
  | [], _ :: _, _ :: _, _, _ => rfl
  | _ :: _, [], _, h, _ => by simp [lexLt] at h
  | _ :: _, _ :: _, [], _, h => by simp [lexLt] at h
  | x :: xs, y :: ys, z :: zs, h1, h2 => by
    simp only [lexLt] at h1 h2 ⊢
    by_cases e : x = y
    · subst e
      rw [if_pos rfl] at h1
      by_cases e2 : x = z
      · subst e2
        rw [if_pos rfl] at h2 ⊢
        exact lex_trans xs ys zs h1 h2
      · rw [if_neg e2] at h2 ⊢
        exact h2
    · rw [if_neg e] at h1
      have h1' := of_decide_eq_true h1
      by_cases e2 : y = z
      · subst e2
        rw [if_neg e]
        exact h1
      · rw [if_neg e2] at h2
        have h2' := of_decide_eq_true h2
        rw [if_neg (show ¬ x = z by omega)]
        exact decide_eq_true (by omega)
theorem lex_asymm {a b : List Int} (h : lexLt a b = true) : lexLt b a = false := by
  cases q : lexLt b a with
  | false => rfl
  | true =>
    have := lex_trans a b a h q
    rw [lex_irrefl] at this
    cases this
/-- not greater -/
theorem nlt_trans {a b c : List Int} (h1 : lexLt b a = false) (h2 : lexLt c b = false) : lexLt c a = false := by
  cases q : lexLt c a with
  | false => rfl
  | true =>
    cases p : lexLt a b with
    | true =>
      rw [lex_trans c a b q p] at h2
      cases h2
    | false =>
      have e := lex_tri a b p h1
      subst e
      rw [q] at h2
      cases h2
theorem leB_lex : ∀ (a b : List Int), a.length = b.length → leB a b = true → lexLt b a = false
  | [], [], _, _ => rfl
  | x :: xs, y :: ys, h, q => by
    simp only [List.length_cons] at h
    simp only [leB, Bool.and_eq_true, decide_eq_true_eq] at q
    simp only [lexLt]
    by_cases e : y = x
    · rw [if_pos e]
      exact leB_lex xs ys (by omega) q.2
    · rw [if_neg e]
      exact decide_eq_false (by omega)
def ins (x : List Int) : List (List Int) → List (List Int)
  | [] => [x]
  | y :: ys => if lexLt y x then y :: ins x ys else x :: y :: ys
def isort : List (List Int) → List (List Int)
  | [] => []
  | x :: xs => ins x (isort xs)
def Up (l : List (List Int)) : Prop := l.Pairwise fun a b => lexLt b a = false
theorem ins_perm (x : List Int) : ∀ l : List (List Int), (ins x l).Perm (x :: l)
  | [] => .refl _
  | y :: ys => by
    simp only [ins]
    split
    · exact ((ins_perm x ys).cons y).trans (.swap x y ys)
    · exact .refl _
theorem isort_perm : ∀ l : List (List Int), (isort l).Perm l
  | [] => .refl _
  | x :: xs => (ins_perm x (isort xs)).trans ((isort_perm xs).cons x)
theorem ins_up (x : List Int) : ∀ l : List (List Int), Up l → Up (ins x l)
  | [], _ => by simp [ins, Up]
  | y :: ys, h => by
    have h' := List.pairwise_cons.mp h
    simp only [ins]
    split
    · rename_i c
      refine List.pairwise_cons.mpr ⟨fun z hz => ?_, ins_up x ys h'.2⟩
      rcases List.mem_cons.mp ((ins_perm x ys).mem_iff.mp hz) with e | e
      · subst e
        exact lex_asymm c
      · exact h'.1 z e
    · rename_i c
      have c' : lexLt y x = false := by simpa using c
      refine List.pairwise_cons.mpr ⟨fun z hz => ?_, h⟩
      rcases List.mem_cons.mp hz with e | e
      · subst e
        exact c'
      · exact nlt_trans c' (h'.1 z e)
theorem isort_up : ∀ l : List (List Int), Up (isort l)
  | [] => List.Pairwise.nil
  | x :: xs => ins_up x _ (isort_up xs)
theorem up_unique : ∀ (l m : List (List Int)), l.Perm m → Up l → Up m → l = m
  | [], m, h, _, _ => by rw [List.nil_perm] at h; rw [h]
  | x :: xs, [], h, _, _ => by rw [List.perm_nil] at h; cases h
  | x :: xs, y :: ys, h, h1, h2 => by
    have h1' := List.pairwise_cons.mp h1
    have h2' := List.pairwise_cons.mp h2
    have e : x = y := by
      have m1 : x ∈ y :: ys := h.mem_iff.mp (List.mem_cons_self ..)
      have m2 : y ∈ x :: xs := h.mem_iff.mpr (List.mem_cons_self ..)
      rcases List.mem_cons.mp m1 with e | m1
      · exact e
      · rcases List.mem_cons.mp m2 with e | m2
        · exact e.symm
        · exact lex_tri x y (h2'.1 x m1) (h1'.1 y m2)
    subst e
    rw [up_unique xs ys (List.Perm.cons_inv h) h1'.2 h2'.2]
theorem isort_eq {l m : List (List Int)} (h : l.Perm m) (u : Up l) : l = isort m := up_unique l (isort m) (h.trans (isort_perm m).symm) u (isort_up m)
theorem isort_len (l : List (List Int)) : (isort l).length = l.length := (isort_perm l).length_eq

/-! ### the least ones kept -/
def keepL (kept : List (List Int)) : List (List Int) → List (List Int)
  | [] => kept
  | s :: ss => if kept.any (fun o => leB o s) then keepL kept ss else keepL (kept ++ [s]) ss
theorem keep_mem : ∀ (ss kept : List (List Int)) (x : List Int), x ∈ keepL kept ss → x ∈ kept ∨ x ∈ ss
  | [], _, _, h => .inl h
  | s :: ss, kept, x, h => by
    simp only [keepL] at h
    split at h
    · rcases keep_mem ss kept x h with h | h
      · exact .inl h
      · exact .inr (List.mem_cons_of_mem _ h)
    · rcases keep_mem ss (kept ++ [s]) x h with h | h
      · rcases List.mem_append.mp h with h | h
        · exact .inl h
        · rw [List.mem_singleton] at h
          subst h
          exact .inr (List.mem_cons_self ..)
      · exact .inr (List.mem_cons_of_mem _ h)
theorem keep_old : ∀ (ss kept : List (List Int)) (x : List Int), x ∈ kept → x ∈ keepL kept ss
  | [], _, _, h => h
  | s :: ss, kept, x, h => by
    simp only [keepL]
    split
    · exact keep_old ss kept x h
    · exact keep_old ss _ x (List.mem_append_left _ h)
theorem keep_dom : ∀ (ss kept : List (List Int)) (x : List Int), x ∈ ss → ∃ k ∈ keepL kept ss, leB k x = true
  | [], _, _, h => by cases h
  | s :: ss, kept, x, h => by
    simp only [keepL]
    rcases List.mem_cons.mp h with e | h
    · subst e
      split
      · rename_i c
        obtain ⟨o, ho, ho'⟩ := List.any_eq_true.mp c
        exact ⟨o, keep_old ss kept o ho, ho'⟩
      · exact ⟨x, keep_old ss _ x (List.mem_append_right _ (List.mem_singleton.mpr rfl)), leB_refl x⟩
    · split
      · exact keep_dom ss kept x h
      · exact keep_dom ss _ x h
theorem keep_len : ∀ (ss kept : List (List Int)), (keepL kept ss).length ≤ kept.length + ss.length
  | [], kept => by simp [keepL]
  | s :: ss, kept => by
    simp only [keepL]
    split
    · have := keep_len ss kept
      simp only [List.length_cons]; omega
    · have := keep_len ss (kept ++ [s])
      simp only [List.length_append, List.length_cons, List.length_nil] at this ⊢; omega
/-- none below another one -/
def Apart (l : List (List Int)) : Prop := l.Pairwise fun a b => leB a b = false ∧ leB b a = false
theorem keep_apart (d : Nat) : ∀ (ss kept : List (List Int)), (∀ x ∈ kept, x.length = d) → (∀ x ∈ ss, x.length = d) → Apart kept → Up ss → (∀ a ∈ kept, ∀ b ∈ ss, lexLt b a = false) → Apart (keepL kept ss)
  | [], kept, _, _, h, _, _ => h
  | s :: ss, kept, hk, hs, h, hu, hks => by
    have hu' := List.pairwise_cons.mp hu
    simp only [keepL]
    split
    · exact keep_apart d ss kept hk (fun x hx => hs x (List.mem_cons_of_mem _ hx)) h hu'.2 fun a ha b hb => hks a ha b (List.mem_cons_of_mem _ hb)
    · rename_i c
      have c' : ∀ o ∈ kept, leB o s = false := fun o ho => by
        cases q : leB o s with
        | false => rfl
        | true => exact absurd (List.any_eq_true.mpr ⟨o, ho, q⟩) c
      refine keep_apart d ss (kept ++ [s]) (fun x hx => ?_) (fun x hx => hs x (List.mem_cons_of_mem _ hx)) ?_ hu'.2 fun a ha b hb => ?_
      · rcases List.mem_append.mp hx with hx | hx
        · exact hk x hx
        · rw [List.mem_singleton] at hx
          subst hx
          exact hs x (List.mem_cons_self ..)
      · refine List.pairwise_append.mpr ⟨h, List.pairwise_singleton _ _, fun a ha b hb => ?_⟩
        rw [List.mem_singleton] at hb
        subst hb
        refine ⟨c' a ha, ?_⟩
        cases q : leB b a with
        | false => rfl
        | true =>
          have l1 := leB_lex b a (by rw [hk a ha, hs b (List.mem_cons_self ..)]) q
          have l2 := hks a ha b (List.mem_cons_self ..)
          have e := lex_tri a b l1 l2
          subst e
          rw [c' a ha] at q
          cases q
      · rcases List.mem_append.mp ha with ha | ha
        · exact hks a ha b (List.mem_cons_of_mem _ hb)
        · rw [List.mem_singleton] at ha
          subst ha
          exact hu'.1 b hb

/-! ### rows that are so -/
/-- a row of these units -/
def VR (us r : List Int) : Prop := r.length = us.length + 1 ∧ nonneg r
theorem VR.add {us a b : List Int} (h1 : VR us a) (h2 : VR us b) : VR us (addL a b) :=
  ⟨by rw [addL_len _ _ (by rw [h1.1, h2.1])]; exact h1.1, nonneg_add _ _ h1.2 h2.2⟩
theorem VR.higher {us a b : List Int} (hu : pos us) (h1 : VR us a) (h2 : VR us b) : VR us (higher us a b) :=
  ⟨higher_len h1.1 h2.1, higher_nonneg hu h1.1 h2.1 h1.2 h2.2⟩
/-- a lies within b -/
def sv (us a b : List Int) : Bool := leB (stair us a) (stair us b)
theorem sv_refl (us a : List Int) : sv us a a = true := leB_refl _
theorem sv_trans {us a b c : List Int} (ha : VR us a) (hb : VR us b) (hc : VR us c) (h1 : sv us a b = true) (h2 : sv us b c = true) : sv us a c = true :=
  leB_trans _ _ _ (by rw [stair_len ha.1, stair_len hb.1]) (by rw [stair_len hb.1, stair_len hc.1]) h1 h2
theorem sv_antisymm {us a b : List Int} (ha : VR us a) (hb : VR us b) (h1 : sv us a b = true) (h2 : sv us b a = true) : a = b := by
  have e := leB_antisymm _ _ (by rw [stair_len ha.1, stair_len hb.1]) h1 h2
  rw [← rowOf_stair ha.1, ← rowOf_stair hb.1, e]
theorem sv_add {us a b c d : List Int} (ha : VR us a) (hb : VR us b) (hc : VR us c) (hd : VR us d) (h1 : sv us a c = true) (h2 : sv us b d = true) : sv us (addL a b) (addL c d) = true := by
  unfold sv
  rw [stair_add ha.1 hb.1, stair_add hc.1 hd.1]
  exact leB_add _ _ _ _ (by rw [stair_len ha.1, stair_len hc.1]) (by rw [stair_len hb.1, stair_len hd.1]) (by rw [stair_len ha.1, stair_len hb.1]) h1 h2
theorem sv_higher {us a b c : List Int} (ha : VR us a) (hb : VR us b) (hc : VR us c) : sv us (higher us a b) c = (sv us a c && sv us b c) := by
  unfold sv
  rw [higher_stair ha.1 hb.1, leB_max _ _ _ (by rw [stair_len ha.1, stair_len hb.1]) (by rw [stair_len hb.1, stair_len hc.1])]
def leastKept (us : List Int) (rows : List (List Int)) : List (List Int) := isort ((keepL [] (isort (rows.map (stair us)))).map (rowOf us))
def AllV (us : List Int) (rows : List (List Int)) : Prop := ∀ r ∈ rows, VR us r
/-- ascending, none within another one -/
def Least (us : List Int) (rows : List (List Int)) : Prop := rows.Pairwise (fun a b => lexLt a b = true) ∧ ∀ a ∈ rows, ∀ b ∈ rows, sv us a b = true → a = b
theorem least_mem {us : List Int} {rows : List (List Int)} (hv : AllV us rows) {r : List Int} (h : r ∈ leastKept us rows) : r ∈ rows := by
  have h1 := (isort_perm _).mem_iff.mp h
  obtain ⟨s, hs, e⟩ := List.mem_map.mp h1
  rcases keep_mem _ _ _ hs with h2 | h2
  · cases h2
  · obtain ⟨q, hq, e2⟩ := List.mem_map.mp ((isort_perm _).mem_iff.mp h2)
    subst e2
    rw [rowOf_stair (hv q hq).1] at e
    subst e
    exact hq
theorem least_dom {us : List Int} {rows : List (List Int)} (hv : AllV us rows) {r : List Int} (h : r ∈ rows) : ∃ k ∈ leastKept us rows, sv us k r = true := by
  obtain ⟨s, hs, e⟩ := keep_dom (isort (rows.map (stair us))) [] (stair us r) ((isort_perm _).mem_iff.mpr (List.mem_map.mpr ⟨r, h, rfl⟩))
  refine ⟨rowOf us s, (isort_perm _).mem_iff.mpr (List.mem_map.mpr ⟨s, hs, rfl⟩), ?_⟩
  rcases keep_mem _ _ _ hs with h2 | h2
  · cases h2
  · obtain ⟨q, hq, e2⟩ := List.mem_map.mp ((isort_perm _).mem_iff.mp h2)
    subst e2
    rw [rowOf_stair (hv q hq).1]
    exact e
theorem least_len (us : List Int) (rows : List (List Int)) : (leastKept us rows).length ≤ rows.length := by
  unfold leastKept
  rw [isort_len, List.length_map]
  have := keep_len (isort (rows.map (stair us))) []
  rw [isort_len, List.length_map] at this
  simpa using this
theorem up_strict {l : List (List Int)} (u : Up l) (n : l.Nodup) : l.Pairwise (fun a b => lexLt a b = true) := by
  refine List.Pairwise.imp₂ (fun {a b} h1 h2 => ?_) u n
  cases q : lexLt a b with
  | true => rfl
  | false => exact absurd (lex_tri a b q h1) h2
theorem apart_iff : ∀ {l : List (List Int)}, Apart l → ∀ a ∈ l, ∀ b ∈ l, leB a b = true → a = b
  | [], _, _, h, _, _, _ => by cases h
  | x :: xs, h, a, ha, b, hb, q => by
    have h' := List.pairwise_cons.mp h
    rcases List.mem_cons.mp ha with e1 | ha1
    · rcases List.mem_cons.mp hb with e2 | hb1
      · rw [e1, e2]
      · have z := (h'.1 b hb1).1
        rw [← e1, q] at z
        cases z
    · rcases List.mem_cons.mp hb with e2 | hb1
      · have z := (h'.1 a ha1).2
        rw [← e2, q] at z
        cases z
      · exact apart_iff h'.2 a ha1 b hb1 q
theorem least_least {us : List Int} {rows : List (List Int)} (hv : AllV us rows) : Least us (leastKept us rows) := by
  have hlen : ∀ x ∈ isort (rows.map (stair us)), x.length = us.length + 1 := fun x hx => by
    obtain ⟨q, hq, e⟩ := List.mem_map.mp ((isort_perm _).mem_iff.mp hx)
    subst e
    exact stair_len (hv q hq).1
  have hmem : ∀ s ∈ keepL [] (isort (rows.map (stair us))), s.length = us.length + 1 := fun s hs => by
    rcases keep_mem _ _ _ hs with h | h
    · cases h
    · exact hlen s h
  have ap : Apart (keepL [] (isort (rows.map (stair us)))) := keep_apart (us.length + 1) _ [] (fun _ h => by cases h) hlen List.Pairwise.nil (isort_up _) fun _ h => by cases h
  have st : ∀ s ∈ keepL [] (isort (rows.map (stair us))), stair us (rowOf us s) = s := fun s hs => stair_rowOf (hmem s hs)
  have nd : ((keepL [] (isort (rows.map (stair us)))).map (rowOf us)).Nodup := by
    refine List.pairwise_map.mpr (List.Pairwise.imp_of_mem (fun {a b} ha hb h => ?_) ap)
    intro e
    have := st a ha
    rw [e, st b hb] at this
    subst this
    rw [leB_refl] at h
    cases h.1
  refine ⟨up_strict (isort_up _) ((isort_perm _).nodup_iff.mpr nd), fun a ha b hb q => ?_⟩
  obtain ⟨s, hs, e1⟩ := List.mem_map.mp ((isort_perm _).mem_iff.mp ha)
  obtain ⟨t, ht, e2⟩ := List.mem_map.mp ((isort_perm _).mem_iff.mp hb)
  subst e1 e2
  unfold sv at q
  rw [st s hs, st t ht] at q
  rw [apart_iff ap s hs t ht q]
end SY

namespace SY
/-! ### formulas -/
inductive Wd where
  | tog | any | one
  deriving DecidableEq
inductive Form where
  | row (r : List Int)
  | node (w : Wd) (fs : List Form)
def zeros (us : List Int) : List Int := List.replicate (us.length + 1) 0
def pairs (us : List Int) (w : Wd) (a b : List (List Int)) : List (List Int) := match w with
  | .one => a ++ b
  | .tog => a.flatMap fun n => b.map (addL n)
  | .any => a.flatMap fun n => b.map (higher us n)
def twoPut (us : List Int) (w : Wd) (a b : List (List Int)) : List (List Int) := leastKept us (pairs us w a b)
def fold (us : List Int) (w : Wd) : List (List (List Int)) → List (List Int)
  | [] => match w with
    | .one => []
    | _ => [zeros us]
  | l :: ls => ls.foldl (twoPut us w) l
mutual
def rowsF (us : List Int) : Form → List (List Int)
  | .row r => [r]
  | .node w fs => fold us w (rowsFs us fs)
def rowsFs (us : List Int) : List Form → List (List (List Int))
  | [] => []
  | f :: fs => rowsF us f :: rowsFs us fs
end
theorem rowsFs_map (us : List Int) : ∀ fs : List Form, rowsFs us fs = fs.map (rowsF us)
  | [] => by simp [rowsFs]
  | f :: fs => by simp [rowsFs, rowsFs_map us fs]
/-- a stock is enough -/
def enB (us : List Int) (rows : List (List Int)) (r : List Int) : Bool := rows.any fun s => sv us s r
def enF (us : List Int) (f : Form) (r : List Int) : Bool := enB us (rowsF us f) r

theorem zeros_vr (us : List Int) : VR us (zeros us) := ⟨by simp [zeros], fun x h => by
  have := (List.mem_replicate.mp h).2
  omega⟩
theorem add_zeros_len : ∀ (n : Nat) (a : List Int), a.length = n → addL a (List.replicate n 0) = a
  | 0, [], _ => rfl
  | n + 1, x :: xs, h => by
    simp only [List.length_cons] at h
    simp only [List.replicate_succ, addL]
    rw [add_zeros_len n xs (by omega), Int.add_zero]
theorem add_zeros {us a : List Int} (h : VR us a) : addL a (zeros us) = a := add_zeros_len _ a h.1
theorem leB_zeros : ∀ (n : Nat) (a : List Int), nonneg a → leB (List.replicate n 0) a = true
  | 0, _, _ => by simp [leB]
  | _ + 1, [], _ => by simp [List.replicate_succ, leB]
  | n + 1, x :: xs, h => by
    rw [nonneg_cons] at h
    simp only [List.replicate_succ, leB, Bool.and_eq_true, decide_eq_true_eq]
    exact ⟨h.1, leB_zeros n xs h.2⟩
theorem sv_zeros {us a : List Int} (hu : pos us) (h : VR us a) : sv us (zeros us) a = true :=
  stair_mono hu (zeros_vr us).1 h.1 (leB_zeros _ a h.2)

theorem pairs_v {us : List Int} (hu : pos us) (w : Wd) {a b : List (List Int)} (ha : AllV us a) (hb : AllV us b) : AllV us (pairs us w a b) := by
  intro r hr
  cases w with
  | one =>
    rcases List.mem_append.mp hr with h | h
    · exact ha r h
    · exact hb r h
  | tog =>
    obtain ⟨n, hn, h⟩ := List.mem_flatMap.mp hr
    obtain ⟨m, hm, e⟩ := List.mem_map.mp h
    subst e
    exact (ha n hn).add (hb m hm)
  | any =>
    obtain ⟨n, hn, h⟩ := List.mem_flatMap.mp hr
    obtain ⟨m, hm, e⟩ := List.mem_map.mp h
    subst e
    exact VR.higher hu (ha n hn) (hb m hm)
theorem two_v {us : List Int} (hu : pos us) (w : Wd) {a b : List (List Int)} (ha : AllV us a) (hb : AllV us b) : AllV us (twoPut us w a b) := fun r hr =>
  pairs_v hu w ha hb r (least_mem (pairs_v hu w ha hb) hr)
theorem foldl_v {us : List Int} (hu : pos us) (w : Wd) : ∀ (ls : List (List (List Int))) (l : List (List Int)), AllV us l → (∀ m ∈ ls, AllV us m) → AllV us (ls.foldl (twoPut us w) l)
  | [], _, h, _ => h
  | m :: ms, l, h, hs => foldl_v hu w ms _ (two_v hu w h (hs m (List.mem_cons_self ..))) fun x hx => hs x (List.mem_cons_of_mem _ hx)
theorem fold_v {us : List Int} (hu : pos us) (w : Wd) (ls : List (List (List Int))) (h : ∀ m ∈ ls, AllV us m) : AllV us (fold us w ls) := by
  cases ls with
  | nil =>
    intro r hr
    cases w with
    | one => simp [fold] at hr
    | tog =>
      simp [fold] at hr
      subst hr
      exact zeros_vr us
    | any =>
      simp [fold] at hr
      subst hr
      exact zeros_vr us
  | cons l ls => exact foldl_v hu w ls l (h l (List.mem_cons_self ..)) fun x hx => h x (List.mem_cons_of_mem _ hx)
theorem least_single {us r : List Int} : Least us [r] := ⟨List.pairwise_singleton _ _, fun a ha b hb _ => by
  rw [List.mem_singleton] at ha hb
  rw [ha, hb]⟩
theorem foldl_least {us : List Int} (hu : pos us) (w : Wd) : ∀ (ls : List (List (List Int))) (l : List (List Int)), AllV us l → Least us l → (∀ m ∈ ls, AllV us m) → Least us (ls.foldl (twoPut us w) l)
  | [], _, _, h, _ => h
  | m :: ms, l, hv, _, hs => foldl_least hu w ms _ (two_v hu w hv (hs m (List.mem_cons_self ..))) (least_least (pairs_v hu w hv (hs m (List.mem_cons_self ..)))) fun x hx => hs x (List.mem_cons_of_mem _ hx)
theorem fold_least {us : List Int} (hu : pos us) (w : Wd) (ls : List (List (List Int))) (h : ∀ m ∈ ls, AllV us m) (hl : ∀ m ∈ ls, Least us m) : Least us (fold us w ls) := by
  cases ls with
  | nil =>
    cases w with
    | one => exact ⟨List.Pairwise.nil, fun a ha => by simp [fold] at ha⟩
    | tog => exact least_single
    | any => exact least_single
  | cons l ls => exact foldl_least hu w ls l (h l (List.mem_cons_self ..)) (hl l (List.mem_cons_self ..)) fun x hx => h x (List.mem_cons_of_mem _ hx)

theorem en_iff {us : List Int} {rows : List (List Int)} {r : List Int} : enB us rows r = true ↔ ∃ s ∈ rows, sv us s r = true := by
  unfold enB
  exact List.any_eq_true
theorem en_least {us : List Int} {rows : List (List Int)} {r : List Int} (hv : AllV us rows) (hr : VR us r) : enB us (leastKept us rows) r = enB us rows r := by
  rw [Bool.eq_iff_iff, en_iff, en_iff]
  constructor
  · rintro ⟨s, hs, h⟩
    exact ⟨s, least_mem hv hs, h⟩
  · rintro ⟨s, hs, h⟩
    obtain ⟨k, hk, h2⟩ := least_dom hv hs
    exact ⟨k, hk, sv_trans (hv k (least_mem hv hk)) (hv s hs) hr h2 h⟩
theorem en_any2 {us : List Int} (hu : pos us) {a b : List (List Int)} {r : List Int} (ha : AllV us a) (hb : AllV us b) (hr : VR us r) : enB us (twoPut us .any a b) r = (enB us a r && enB us b r) := by
  unfold twoPut
  rw [en_least (pairs_v hu _ ha hb) hr, Bool.eq_iff_iff, en_iff, Bool.and_eq_true, en_iff, en_iff]
  constructor
  · rintro ⟨s, hs, h⟩
    obtain ⟨n, hn, h3⟩ := List.mem_flatMap.mp hs
    obtain ⟨m, hm, e⟩ := List.mem_map.mp h3
    subst e
    rw [sv_higher (ha n hn) (hb m hm) hr, Bool.and_eq_true] at h
    exact ⟨⟨n, hn, h.1⟩, ⟨m, hm, h.2⟩⟩
  · rintro ⟨⟨n, hn, h1⟩, ⟨m, hm, h2⟩⟩
    refine ⟨higher us n m, List.mem_flatMap.mpr ⟨n, hn, List.mem_map.mpr ⟨m, hm, rfl⟩⟩, ?_⟩
    rw [sv_higher (ha n hn) (hb m hm) hr, h1, h2]
    rfl
theorem en_one2 {us : List Int} (hu : pos us) {a b : List (List Int)} {r : List Int} (ha : AllV us a) (hb : AllV us b) (hr : VR us r) : enB us (twoPut us .one a b) r = (enB us a r || enB us b r) := by
  unfold twoPut
  rw [en_least (pairs_v hu _ ha hb) hr]
  show (a ++ b).any _ = _
  rw [List.any_append]
  rfl
theorem en_foldl_any {us : List Int} (hu : pos us) {r : List Int} (hr : VR us r) : ∀ (ls : List (List (List Int))) (l : List (List Int)), AllV us l → (∀ m ∈ ls, AllV us m) → enB us (ls.foldl (twoPut us .any) l) r = (enB us l r && ls.all fun m => enB us m r)
  | [], l, _, _ => by simp
  | m :: ms, l, h, hs => by
    have hm := hs m (List.mem_cons_self ..)
    rw [List.foldl_cons, en_foldl_any hu hr ms _ (two_v hu _ h hm) fun x hx => hs x (List.mem_cons_of_mem _ hx), en_any2 hu h hm hr, List.all_cons, Bool.and_assoc]
theorem en_foldl_one {us : List Int} (hu : pos us) {r : List Int} (hr : VR us r) : ∀ (ls : List (List (List Int))) (l : List (List Int)), AllV us l → (∀ m ∈ ls, AllV us m) → enB us (ls.foldl (twoPut us .one) l) r = (enB us l r || ls.any fun m => enB us m r)
  | [], l, _, _ => by simp
  | m :: ms, l, h, hs => by
    have hm := hs m (List.mem_cons_self ..)
    rw [List.foldl_cons, en_foldl_one hu hr ms _ (two_v hu _ h hm) fun x hx => hs x (List.mem_cons_of_mem _ hx), en_one2 hu h hm hr, List.any_cons, Bool.or_assoc]
/-- all sums -/
def sums (us : List Int) : List (List (List Int)) → List (List Int)
  | [] => [zeros us]
  | l :: ls => l.flatMap fun n => (sums us ls).map (addL n)
theorem sums_v {us : List Int} : ∀ (ls : List (List (List Int))), (∀ m ∈ ls, AllV us m) → AllV us (sums us ls)
  | [], _ => by
    intro r hr
    simp only [sums, List.mem_singleton] at hr
    subst hr
    exact zeros_vr us
  | l :: ls, h => by
    intro r hr
    simp only [sums] at hr
    obtain ⟨n, hn, h3⟩ := List.mem_flatMap.mp hr
    obtain ⟨m, hm, e⟩ := List.mem_map.mp h3
    subst e
    exact (h l (List.mem_cons_self ..) n hn).add (sums_v ls (fun x hx => h x (List.mem_cons_of_mem _ hx)) m hm)
theorem en_foldl_tog {us : List Int} (hu : pos us) {r : List Int} (hr : VR us r) : ∀ (ls : List (List (List Int))) (l : List (List Int)), AllV us l → (∀ m ∈ ls, AllV us m) →
    (enB us (ls.foldl (twoPut us .tog) l) r = true ↔ ∃ s ∈ sums us (l :: ls), sv us s r = true)
  | [], l, h, _ => by
    rw [List.foldl_nil, en_iff]
    constructor
    · rintro ⟨s, hs, h2⟩
      refine ⟨addL s (zeros us), List.mem_flatMap.mpr ⟨s, hs, List.mem_map.mpr ⟨_, by simp [sums], rfl⟩⟩, ?_⟩
      rw [add_zeros (h s hs)]
      exact h2
    · rintro ⟨s, hs, h2⟩
      obtain ⟨n, hn, h3⟩ := List.mem_flatMap.mp hs
      obtain ⟨m, hm, e⟩ := List.mem_map.mp h3
      simp only [sums, List.mem_singleton] at hm
      subst hm
      subst e
      rw [add_zeros (h n hn)] at h2
      exact ⟨n, hn, h2⟩
  | m :: ms, l, h, hs => by
    have hm := hs m (List.mem_cons_self ..)
    have hms : ∀ x ∈ ms, AllV us x := fun x hx => hs x (List.mem_cons_of_mem _ hx)
    have pv := pairs_v hu .tog h hm
    have sms := sums_v ms hms
    rw [List.foldl_cons, en_foldl_tog hu hr ms _ (two_v hu _ h hm) hms]
    constructor
    · rintro ⟨s, hs, h2⟩
      obtain ⟨n, hn, h3⟩ := List.mem_flatMap.mp hs
      obtain ⟨t, ht, e⟩ := List.mem_map.mp h3
      subst e
      obtain ⟨n1, hn1, h4⟩ := List.mem_flatMap.mp (least_mem pv hn)
      obtain ⟨n2, hn2, e⟩ := List.mem_map.mp h4
      subst e
      refine ⟨addL n1 (addL n2 t), List.mem_flatMap.mpr ⟨n1, hn1, List.mem_map.mpr ⟨_, List.mem_flatMap.mpr ⟨n2, hn2, List.mem_map.mpr ⟨t, ht, rfl⟩⟩, rfl⟩⟩, ?_⟩
      rw [← addL_assoc]
      exact h2
    · rintro ⟨s, hs, h2⟩
      obtain ⟨n1, hn1, h3⟩ := List.mem_flatMap.mp hs
      obtain ⟨q, hq, e⟩ := List.mem_map.mp h3
      subst e
      obtain ⟨n2, hn2, h4⟩ := List.mem_flatMap.mp hq
      obtain ⟨t, ht, e⟩ := List.mem_map.mp h4
      subst e
      obtain ⟨k, hk, h5⟩ := least_dom pv (List.mem_flatMap.mpr ⟨n1, hn1, List.mem_map.mpr ⟨n2, hn2, rfl⟩⟩ : addL n1 n2 ∈ pairs us .tog l m)
      refine ⟨addL k t, List.mem_flatMap.mpr ⟨k, hk, List.mem_map.mpr ⟨t, ht, rfl⟩⟩, ?_⟩
      have vk := pv k (least_mem pv hk)
      have v12 := (h n1 hn1).add (hm n2 hn2)
      have vt := sms t ht
      rw [← addL_assoc] at h2
      exact sv_trans (vk.add vt) (v12.add vt) hr (sv_add vk vt v12 vt h5 (sv_refl us t)) h2

/-- what is asked of a formula's rows -/
def FV (us : List Int) (f : Form) : Prop := AllV us (rowsF us f)
theorem en_any {us : List Int} (hu : pos us) {fs : List Form} {r : List Int} (hf : ∀ f ∈ fs, FV us f) (hr : VR us r) : enF us (.node .any fs) r = fs.all fun f => enF us f r := by
  unfold enF
  rw [rowsF, rowsFs_map]
  cases fs with
  | nil =>
    show [zeros us].any _ = _
    simp [sv_zeros hu hr]
  | cons f fs =>
    show enB us ((fs.map (rowsF us)).foldl (twoPut us .any) (rowsF us f)) r = _
    rw [en_foldl_any hu hr _ _ (hf f (List.mem_cons_self ..)) (fun x hx => ?_), List.all_cons, List.all_map]
    · rfl
    · obtain ⟨g, hg, e⟩ := List.mem_map.mp hx
      subst e
      exact hf g (List.mem_cons_of_mem _ hg)
theorem en_one {us : List Int} (hu : pos us) {fs : List Form} {r : List Int} (hf : ∀ f ∈ fs, FV us f) (hr : VR us r) : enF us (.node .one fs) r = fs.any fun f => enF us f r := by
  unfold enF
  rw [rowsF, rowsFs_map]
  cases fs with
  | nil => rfl
  | cons f fs =>
    show enB us ((fs.map (rowsF us)).foldl (twoPut us .one) (rowsF us f)) r = _
    rw [en_foldl_one hu hr _ _ (hf f (List.mem_cons_self ..)) (fun x hx => ?_), List.any_cons, List.any_map]
    · rfl
    · obtain ⟨g, hg, e⟩ := List.mem_map.mp hx
      subst e
      exact hf g (List.mem_cons_of_mem _ hg)
def Tg (us : List Int) (fs : List Form) (r : List Int) : Prop := ∃ s ∈ sums us (fs.map (rowsF us)), sv us s r = true
theorem en_tog {us : List Int} (hu : pos us) {fs : List Form} {r : List Int} (hf : ∀ f ∈ fs, FV us f) (hr : VR us r) : enF us (.node .tog fs) r = true ↔ Tg us fs r := by
  unfold enF Tg
  rw [rowsF, rowsFs_map]
  cases fs with
  | nil =>
    show [zeros us].any _ = true ↔ _
    simp [sv_zeros hu hr, sums]
  | cons f fs =>
    show enB us ((fs.map (rowsF us)).foldl (twoPut us .tog) (rowsF us f)) r = true ↔ _
    rw [en_foldl_tog hu hr _ _ (hf f (List.mem_cons_self ..)) (fun x hx => ?_)]
    · rfl
    · obtain ⟨g, hg, e⟩ := List.mem_map.mp hx
      subst e
      exact hf g (List.mem_cons_of_mem _ hg)

/-! ### cuts -/
def cutAt : List Int → Nat → List Int → List Int
  | u :: _, 0, a :: b :: r => (a - 1) :: (b + u) :: r
  | _ :: us, k + 1, a :: r => a :: cutAt us k r
  | _, _, r => r
inductive Reach (us : List Int) (r : List Int) : List Int → Prop
  | refl : Reach us r r
  | cut {c : List Int} {k : Nat} {x : Int} : Reach us r c → k < us.length → c[k]? = some x → 0 < x → Reach us r (cutAt us k c)
theorem Reach.trans {us a b c : List Int} (h1 : Reach us a b) (h2 : Reach us b c) : Reach us a c := by
  induction h2 with
  | refl => exact h1
  | cut _ hk hx h0 ih => exact .cut ih hk hx h0
def shift (d : Int) : List Int → List Int
  | [] => []
  | n :: ns => (n + d) :: ns
theorem stair_cons (u : Int) (us : List Int) (a : Int) (r : List Int) (h : r ≠ []) : stair (u :: us) (a :: r) = a :: stair us (shift (u * a) r) := by
  cases r with
  | nil => exact absurd rfl h
  | cons n ns =>
    simp only [stair, stairC, shift]
    rw [Int.add_comm (u * a) n]
theorem cut_shift : ∀ (us : List Int) (k : Nat) (r : List Int) (d : Int), cutAt us k (shift d r) = shift d (cutAt us k r)
  | [], 0, r, d => by cases r <;> rfl
  | [], _ + 1, r, d => by cases r <;> rfl
  | _ :: _, 0, [], _ => rfl
  | _ :: _, 0, [_], _ => rfl
  | u :: _, 0, a :: b :: r, d => by simp only [shift, cutAt]; rw [show a + d - 1 = a - 1 + d by omega]
  | _ :: _, _ + 1, [], _ => rfl
  | _ :: us, k + 1, a :: r, d => rfl
theorem cut_len : ∀ (us : List Int) (k : Nat) (r : List Int), (cutAt us k r).length = r.length
  | [], 0, r => by cases r <;> rfl
  | [], _ + 1, r => by cases r <;> rfl
  | _ :: _, 0, [] => rfl
  | _ :: _, 0, [_] => rfl
  | u :: _, 0, a :: b :: r => rfl
  | _ :: _, _ + 1, [] => rfl
  | _ :: us, k + 1, a :: r => by simp only [cutAt, List.length_cons]; rw [cut_len us k r]
theorem cut_nonneg : ∀ (us : List Int) (k : Nat) (r : List Int) (x : Int), pos us → nonneg r → r[k]? = some x → 0 < x → nonneg (cutAt us k r)
  | [], 0, r, _, _, h, _, _ => by cases r <;> exact h
  | [], _ + 1, r, _, _, h, _, _ => by cases r <;> exact h
  | _ :: _, 0, [], _, _, h, _, _ => h
  | _ :: _, 0, [_], _, _, h, _, _ => h
  | u :: _, 0, a :: b :: r, x, hu, h, hx, h0 => by
    rw [pos_cons] at hu
    rw [nonneg_cons, nonneg_cons] at h
    simp at hx
    simp only [cutAt]
    rw [nonneg_cons, nonneg_cons]
    have := hu.1
    have := h.2.1
    exact ⟨by omega, by omega, h.2.2⟩
  | _ :: _, _ + 1, [], _, _, h, _, _ => h
  | _ :: us, k + 1, a :: r, x, hu, h, hx, h0 => by
    rw [pos_cons] at hu
    rw [nonneg_cons] at h
    simp only [List.getElem?_cons_succ] at hx
    simp only [cutAt]
    rw [nonneg_cons]
    exact ⟨h.1, cut_nonneg us k r x hu.2 h.2 hx h0⟩
theorem lst_cons {a : Int} {r : List Int} (h : r ≠ []) : lst (a :: r) = lst r := by
  cases r with
  | nil => exact absurd rfl h
  | cons b r => rfl
theorem ne_of_len {α : Type} {l : List α} {n : Nat} (h : l.length = n + 1) : l ≠ [] := by
  intro e
  subst e
  simp at h
theorem shift_len (d : Int) (r : List Int) : (shift d r).length = r.length := by cases r <;> rfl
theorem cut_stair : ∀ (us : List Int) (k : Nat) (r : List Int), r.length = us.length + 1 → k < us.length → leB (stair us (cutAt us k r)) (stair us r) = true ∧ lst (stair us (cutAt us k r)) = lst (stair us r)
  | [], _, _, _, h => by simp at h
  | _ :: _, _, [], h, _ => by simp at h
  | _ :: _, 0, [_], h, _ => by simp at h
  | u :: us, 0, a :: b :: r, h, _ => by
    have e : u * (a - 1) + (b + u) = u * a + b := by rw [Int.mul_sub, Int.mul_one]; omega
    simp only [cutAt, stair, stairC]
    rw [e]
    refine ⟨?_, rfl⟩
    simp only [leB, Bool.and_eq_true, decide_eq_true_eq]
    exact ⟨by omega, Int.le_refl _, leB_refl _⟩
  | u :: us, k + 1, a :: r, h, hk => by
    simp only [List.length_cons] at h hk
    have hr : r ≠ [] := ne_of_len (n := us.length) (by omega)
    have hc : cutAt us k r ≠ [] := ne_of_len (n := us.length) (by rw [cut_len]; omega)
    simp only [cutAt]
    rw [stair_cons u us a _ hc, stair_cons u us a r hr, ← cut_shift]
    have ih := cut_stair us k (shift (u * a) r) (by rw [shift_len]; omega) (by omega)
    have n1 : stair us (cutAt us k (shift (u * a) r)) ≠ [] := ne_of_len (n := us.length) (stair_len (by rw [cut_len, shift_len]; omega))
    have n2 : stair us (shift (u * a) r) ≠ [] := ne_of_len (n := us.length) (stair_len (by rw [shift_len]; omega))
    rw [lst_cons n1, lst_cons n2]
    refine ⟨?_, ih.2⟩
    simp only [leB, Bool.and_eq_true, decide_eq_true_eq]
    exact ⟨Int.le_refl _, ih.1⟩
theorem reach_vr {us r c : List Int} (hu : pos us) (hr : VR us r) (h : Reach us r c) : VR us c ∧ sv us c r = true ∧ tot us c = tot us r := by
  induction h with
  | refl => exact ⟨hr, sv_refl us r, rfl⟩
  | cut _ hk hx h0 ih =>
    have q := cut_stair us _ _ ih.1.1 hk
    have v : VR us _ := ⟨by rw [cut_len]; exact ih.1.1, cut_nonneg us _ _ _ hu ih.1.2 hx h0⟩
    exact ⟨v, sv_trans v ih.1 hr q.1 ih.2.1, q.2.trans ih.2.2⟩
theorem reach_cons {u a : Int} {us r c : List Int} (h : Reach us r c) : Reach (u :: us) (a :: r) (a :: c) := by
  induction h with
  | refl => exact .refl
  | cut _ hk hx h0 ih => exact Reach.cut (k := _ + 1) ih (by simp only [List.length_cons]; omega) (by simpa using hx) h0
theorem reach_many {u : Int} {us r : List Int} : ∀ (n : Nat) (a b : Int), Reach (u :: us) ((a + n) :: b :: r) (a :: (b + u * n) :: r) ∨ a < 0
  | 0, a, b => by
    refine .inl ?_
    rw [show a + ((0 : Nat) : Int) = a by omega, show b + u * ((0 : Nat) : Int) = b by simp]
    exact .refl
  | n + 1, a, b => by
    by_cases ha : a < 0
    · exact .inr ha
    · rcases reach_many (u := u) (us := us) (r := r) n (a + 1) b with h | h
      · refine .inl ?_
        have e1 : a + 1 + (n : Int) = a + ((n + 1 : Nat) : Int) := by omega
        rw [e1] at h
        have s := Reach.cut (k := 0) (x := a + 1) h (by simp) rfl (by omega)
        simp only [cutAt] at s
        have e2 : a + 1 - 1 = a := by omega
        have e3 : b + u * (n : Int) + u = b + u * ((n + 1 : Nat) : Int) := by
          rw [show ((n + 1 : Nat) : Int) = (n : Int) + 1 by omega, Int.mul_add, Int.mul_one]
          omega
        rw [e2, e3] at s
        exact s
      · omega
theorem stairC_shift : ∀ (us : List Int) (c e d : Int) (a b : List Int), a.length = us.length → b.length = us.length → leB (stairC us (c + d) a) (stairC us (e + d) b) = leB (stairC us c a) (stairC us e b)
  | [], _, _, _, [], [], _, _ => rfl
  | u :: us, c, e, d, x :: xs, y :: ys, h1, h2 => by
    simp only [List.length_cons] at h1 h2
    simp only [stairC, leB]
    have q1 : u * (c + d) + x = (u * c + x) + u * d := by rw [Int.mul_add]; omega
    have q2 : u * (e + d) + y = (u * e + y) + u * d := by rw [Int.mul_add]; omega
    rw [q1, q2, stairC_shift us _ _ _ xs ys (by omega) (by omega)]
    congr 1
    exact decide_eq_decide.mpr (by omega)
theorem stair_shift {us a b : List Int} (d : Int) (h1 : a.length = us.length + 1) (h2 : b.length = us.length + 1) : leB (stair us (shift d a)) (stair us (shift d b)) = leB (stair us a) (stair us b) := by
  cases a with
  | nil => simp at h1
  | cons x xs =>
    cases b with
    | nil => simp at h2
    | cons y ys =>
      simp only [List.length_cons] at h1 h2
      simp only [shift, stair, leB]
      rw [stairC_shift us x y d xs ys (by omega) (by omega)]
      congr 1
      exact decide_eq_decide.mpr (by omega)
/-- if an order lies within a stock, cuts lead to a row with its pieces -/
theorem reach_has : ∀ (us R r : List Int), pos us → VR us R → VR us r → sv us R r = true → ∃ c, Reach us r c ∧ leB R c = true
  | [], [y], [x], _, _, _, h => ⟨[x], .refl, by
    simp only [sv, stair, stairC, leB, Bool.and_true] at h ⊢
    exact h⟩
  | [], [], _, _, h, _, _ => by simp [VR] at h
  | [], _ :: _ :: _, _, _, h, _, _ => by simp [VR] at h
  | [], [_], [], _, _, h, _ => by simp [VR] at h
  | [], [_], _ :: _ :: _, _, _, h, _ => by simp [VR] at h
  | _ :: _, [], _, _, h, _, _ => by simp [VR] at h
  | _ :: _, [_], _, _, h, _, _ => by simp [VR] at h
  | _ :: _, _ :: _ :: _, [], _, _, h, _ => by simp [VR] at h
  | _ :: _, _ :: _ :: _, [_], _, _, h, _ => by simp [VR] at h
  | u :: us, A :: B :: R, a :: b :: r, hu, hR, hr, h => by
    rw [pos_cons] at hu
    obtain ⟨l1, n1⟩ := hR
    obtain ⟨l2, n2⟩ := hr
    simp only [List.length_cons] at l1 l2
    rw [nonneg_cons, nonneg_cons] at n1 n2
    unfold sv at h
    rw [stair_cons u us A _ (by simp), stair_cons u us a _ (by simp)] at h
    simp only [leB, Bool.and_eq_true, decide_eq_true_eq] at h
    obtain ⟨hA, h⟩ := h
    have e1 : shift (u * a) (b :: r) = shift (u * A) ((b + u * (a - A)) :: r) := by
      simp only [shift]
      rw [Int.mul_sub, show b + u * a = b + (u * a - u * A) + u * A by omega]
    rw [e1, stair_shift _ (by simp only [List.length_cons]; omega) (by simp only [List.length_cons]; omega)] at h
    have hm : 0 ≤ u * (a - A) := Int.mul_nonneg (by have := hu.1; omega) (by omega)
    obtain ⟨c, hc, hl⟩ := reach_has us (B :: R) ((b + u * (a - A)) :: r) hu.2 ⟨by simp only [List.length_cons]; omega, by rw [nonneg_cons]; exact n1.2⟩
      ⟨by simp only [List.length_cons]; omega, by rw [nonneg_cons]; exact ⟨by have := n2.2.1; omega, n2.2.2⟩⟩ h
    rcases reach_many (u := u) (us := us) (r := r) (a - A).toNat A b with q | q
    · have e2 : A + ((a - A).toNat : Int) = a := by omega
      have e3 : ((a - A).toNat : Int) = a - A := by omega
      rw [e2, e3] at q
      refine ⟨A :: c, q.trans (reach_cons hc), ?_⟩
      simp only [leB, Bool.and_eq_true, decide_eq_true_eq]
      exact ⟨Int.le_refl _, hl⟩
    · have := n1.1
      omega
/-- a cutting of the stock has the pieces of the order exactly if the order lies within it -/
theorem fits_iff {us R r : List Int} (hu : pos us) (hR : VR us R) (hr : VR us r) : (∃ c, Reach us r c ∧ leB R c = true) ↔ sv us R r = true := by
  constructor
  · rintro ⟨c, h1, h2⟩
    obtain ⟨v, q, _⟩ := reach_vr hu hr h1
    exact sv_trans hR v hr (stair_mono hu hR.1 v.1 h2) q
  · exact reach_has us R r hu hR hr
theorem tg_nil {us r : List Int} (hu : pos us) (hr : VR us r) : Tg us [] r := ⟨zeros us, by simp [sums], sv_zeros hu hr⟩
theorem tg_cons {us : List Int} (hu : pos us) {f : Form} {fs : List Form} {r : List Int} (hf : FV us f) (hfs : ∀ g ∈ fs, FV us g) (hr : VR us r) :
    Tg us (f :: fs) r ↔ ∃ here part, Reach us r here ∧ VR us part ∧ leB part here = true ∧ enF us f part = true ∧ Tg us fs (subL here part) := by
  have hsv : AllV us (sums us (fs.map (rowsF us))) := sums_v _ fun x hx => by
    obtain ⟨g, hg, e⟩ := List.mem_map.mp hx
    subst e
    exact hfs g hg
  constructor
  · rintro ⟨s, hs, h⟩
    obtain ⟨n, hn, h3⟩ := List.mem_flatMap.mp hs
    obtain ⟨m, hm, e⟩ := List.mem_map.mp h3
    subst e
    have vn := hf n hn
    have vm := hsv m hm
    obtain ⟨c, hc, hl⟩ := reach_has us _ r hu (vn.add vm) hr h
    obtain ⟨vc, _, _⟩ := reach_vr hu hr hc
    have lnc : leB n c = true := by
      refine leB_trans n (addL n m) c (by rw [addL_len _ _ (by rw [vn.1, vm.1])]) (by rw [(vn.add vm).1, vc.1]) ?_ hl
      have q := leB_add_left n (zeros us) m (by rw [vn.1, (zeros_vr us).1]) (by rw [vm.1, (zeros_vr us).1])
      rw [add_zeros vn] at q
      rw [q]
      exact leB_zeros _ m vm.2
    have vs : VR us (subL c n) := ⟨by rw [subL_len _ _ (by rw [vc.1, vn.1])]; exact vc.1, nonneg_sub _ _ lnc⟩
    refine ⟨c, n, hc, vn, lnc, en_iff.mpr ⟨n, hn, sv_refl us n⟩, m, hm, stair_mono hu vm.1 vs.1 ?_⟩
    rw [← leB_add_left n m (subL c n) (by rw [vn.1, vm.1]) (by rw [vm.1, vs.1]), sub_add c n (by rw [vc.1, vn.1])]
    exact hl
  · rintro ⟨here, part, h1, vp, h2, h3, m, hm, h4⟩
    obtain ⟨n, hn, h5⟩ := en_iff.mp h3
    obtain ⟨vh, q, _⟩ := reach_vr hu hr h1
    have vn := hf n hn
    have vm := hsv m hm
    have vs : VR us (subL here part) := ⟨by rw [subL_len _ _ (by rw [vh.1, vp.1])]; exact vh.1, nonneg_sub _ _ h2⟩
    refine ⟨addL n m, List.mem_flatMap.mpr ⟨n, hn, List.mem_map.mpr ⟨m, hm, rfl⟩⟩, ?_⟩
    have z := sv_add vn vm vp vs h5 h4
    rw [sub_add here part (by rw [vh.1, vp.1])] at z
    exact sv_trans (vn.add vm) vh hr z q
end SY

namespace SY
/-! ### what the sorts and the bounds ask -/
def BB : Int := 10 ^ 64
def vrB (us r : List Int) : Bool := decide (r.length = us.length + 1) && r.all fun x => decide (0 ≤ x)
theorem vrB_iff {us r : List Int} : vrB us r = true ↔ VR us r := by
  unfold vrB VR nonneg
  rw [Bool.and_eq_true, decide_eq_true_eq, List.all_eq_true]
  simp
def okK (us : List Int) (rows : List (List Int)) : Bool := decide (rows.length < 64) && decide ((keepL [] (isort (rows.map (stair us)))).length ≤ 40) && rows.all fun r => vrB us r && decide (tot us r < BB)
def okFold (us : List Int) (w : Wd) : List (List Int) → List (List (List Int)) → Bool
  | _, [] => true
  | l, m :: ms => okK us (pairs us w l m) && okFold us w (twoPut us w l m) ms
def okTop (us : List Int) (w : Wd) : List (List (List Int)) → Bool
  | [] => true
  | l :: ls => okFold us w l ls
mutual
def okF (us : List Int) : Form → Bool
  | .row r => vrB us r
  | .node w fs => okFs us fs && okTop us w (rowsFs us fs)
def okFs (us : List Int) : List Form → Bool
  | [] => true
  | f :: fs => okF us f && okFs us fs
end
theorem okFs_all (us : List Int) : ∀ fs : List Form, okFs us fs = true → ∀ f ∈ fs, okF us f = true
  | [], _, _, h => by cases h
  | f :: fs, h, g, hg => by
    simp only [okFs, Bool.and_eq_true] at h
    rcases List.mem_cons.mp hg with e | hg
    · subst e
      exact h.1
    · exact okFs_all us fs h.2 g hg
theorem okFs_of (us : List Int) : ∀ fs : List Form, (∀ f ∈ fs, okF us f = true) → okFs us fs = true
  | [], _ => by simp [okFs]
  | f :: fs, h => by
    simp only [okFs, Bool.and_eq_true]
    exact ⟨h f (List.mem_cons_self ..), okFs_of us fs fun g hg => h g (List.mem_cons_of_mem _ hg)⟩
mutual
theorem okF_v {us : List Int} (hu : pos us) : ∀ f : Form, okF us f = true → FV us f ∧ Least us (rowsF us f)
  | .row r, h => by
    simp only [okF] at h
    refine ⟨fun q hq => ?_, ?_⟩
    · simp only [rowsF, List.mem_singleton] at hq
      subst hq
      exact vrB_iff.mp h
    · simp only [rowsF]
      exact least_single
  | .node w fs, h => by
    simp only [okF, Bool.and_eq_true] at h
    have q := okFs_v hu fs h.1
    simp only [FV, rowsF]
    exact ⟨fold_v hu w _ fun m hm => (q m hm).1, fold_least hu w _ (fun m hm => (q m hm).1) fun m hm => (q m hm).2⟩
theorem okFs_v {us : List Int} (hu : pos us) : ∀ fs : List Form, okFs us fs = true → ∀ m ∈ rowsFs us fs, AllV us m ∧ Least us m
  | [], _, _, h => by simp [rowsFs] at h
  | f :: fs, h, m, hm => by
    simp only [okFs, Bool.and_eq_true] at h
    simp only [rowsFs] at hm
    rcases List.mem_cons.mp hm with e | hm
    · subst e
      exact okF_v hu f h.1
    · exact okFs_v hu fs h.2 m hm
end

/-! ### the walk of a formula's parts -/
mutual
def cnt : Form → Nat
  | .row _ => 1
  | .node _ fs => 1 + cnts fs
def cnts : List Form → Nat
  | [] => 0
  | f :: fs => cnt f + cnts fs
end
mutual
def dep : Form → Nat
  | .row _ => 1
  | .node _ fs => 1 + deps fs
def deps : List Form → Nat
  | [] => 0
  | f :: fs => max (dep f) (deps fs)
end
def rowB (us r : List Int) : Bool := decide (r.length = us.length + 1) && r.all fun x => decide (0 ≤ x) && decide (x ≤ 10 ^ 60)
mutual
def shp (us : List Int) : Form → Bool
  | .row r => rowB us r
  | .node _ fs => decide (fs.length ≤ 4) && shps us fs
def shps (us : List Int) : List Form → Bool
  | [] => true
  | f :: fs => shp us f && shps us fs
end
theorem cnt_pos : ∀ f : Form, 1 ≤ cnt f
  | .row _ => by simp [cnt]
  | .node _ fs => by simp only [cnt]; omega
theorem dep_pos : ∀ f : Form, 1 ≤ dep f
  | .row _ => by simp [dep]
  | .node _ fs => by simp only [dep]; omega
theorem deps_mem : ∀ (fs : List Form) (f : Form), f ∈ fs → dep f ≤ deps fs
  | [], _, h => by cases h
  | g :: gs, f, h => by
    simp only [deps]
    rcases List.mem_cons.mp h with e | h
    · subst e; omega
    · have := deps_mem gs f h; omega
theorem shps_mem (us : List Int) : ∀ (fs : List Form), shps us fs = true → ∀ f ∈ fs, shp us f = true
  | [], _, _, h => by cases h
  | g :: gs, h, f, hf => by
    simp only [shps, Bool.and_eq_true] at h
    rcases List.mem_cons.mp hf with e | hf
    · subst e; exact h.1
    · exact shps_mem us gs h.2 f hf

/-! ### drawn formulas -/
def DrRow (us r : List Int) : Prop := VR us r ∧ tot us r ≤ 3
def Dr (us : List Int) : Nat → Form → Prop
  | _, .row r => DrRow us r
  | 0, .node _ _ => False
  | n + 1, .node w fs => fs.length ≤ 3 ∧ (w = .tog → fs.length ≤ 2) ∧ ∀ f ∈ fs, Dr us n f
structure Sm (us : List Int) (L : List (List Int)) (a : Nat) (t : Int) : Prop where
  v : AllV us L
  len : L.length ≤ a
  tt : ∀ r ∈ L, tot us r ≤ t
theorem Sm.mono {us : List Int} {L : List (List Int)} {a b : Nat} {t s : Int} (h : Sm us L a t) (h1 : a ≤ b) (h2 : t ≤ s) : Sm us L b s :=
  ⟨h.v, by have := h.len; omega, fun r hr => Int.le_trans (h.tt r hr) h2⟩
theorem okK_of {us : List Int} {L : List (List Int)} {a : Nat} {t : Int} (h : Sm us L a t) (ha : a ≤ 40) (ht : t < BB) : okK us L = true := by
  unfold okK
  have h1 := keep_len (isort (L.map (stair us))) []
  rw [isort_len, List.length_map] at h1
  have h2 := h.len
  simp only [List.length_nil] at h1
  rw [Bool.and_eq_true, Bool.and_eq_true, decide_eq_true_eq, decide_eq_true_eq, List.all_eq_true]
  refine ⟨⟨by omega, by omega⟩, fun r hr => ?_⟩
  rw [Bool.and_eq_true, decide_eq_true_eq]
  exact ⟨vrB_iff.mpr (h.v r hr), Int.lt_of_le_of_lt (h.tt r hr) ht⟩
theorem sm_least {us : List Int} {L : List (List Int)} {a : Nat} {t : Int} (h : Sm us L a t) : Sm us (leastKept us L) a t :=
  ⟨fun r hr => h.v r (least_mem h.v hr), Nat.le_trans (least_len us L) h.len, fun r hr => h.tt r (least_mem h.v hr)⟩
theorem len_prod {α β γ : Type} (g : α → β → γ) (b : List β) : ∀ a : List α, (a.flatMap fun n => b.map (g n)).length = a.length * b.length
  | [] => by simp
  | x :: xs => by
    rw [List.flatMap_cons, List.length_append, List.length_map, len_prod g b xs, List.length_cons, Nat.add_mul, Nat.one_mul, Nat.add_comm]
theorem sm_any {us : List Int} (hu : pos us) {l m : List (List Int)} {a c : Nat} {t : Int} (h1 : Sm us l a t) (h2 : Sm us m c t) : Sm us (pairs us .any l m) (a * c) t := by
  refine ⟨pairs_v hu _ h1.v h2.v, ?_, fun r hr => ?_⟩
  · show (l.flatMap fun n => m.map (higher us n)).length ≤ _
    rw [len_prod]
    exact Nat.mul_le_mul h1.len h2.len
  · obtain ⟨n, hn, h3⟩ := List.mem_flatMap.mp hr
    obtain ⟨k, hk, e⟩ := List.mem_map.mp h3
    subst e
    rw [tot_higher (h1.v n hn).1 (h2.v k hk).1]
    have := h1.tt n hn
    have := h2.tt k hk
    split <;> omega
theorem sm_tog {us : List Int} (hu : pos us) {l m : List (List Int)} {a c : Nat} {t : Int} (h1 : Sm us l a t) (h2 : Sm us m c t) : Sm us (pairs us .tog l m) (a * c) (2 * t) := by
  refine ⟨pairs_v hu _ h1.v h2.v, ?_, fun r hr => ?_⟩
  · show (l.flatMap fun n => m.map (addL n)).length ≤ _
    rw [len_prod]
    exact Nat.mul_le_mul h1.len h2.len
  · obtain ⟨n, hn, h3⟩ := List.mem_flatMap.mp hr
    obtain ⟨k, hk, e⟩ := List.mem_map.mp h3
    subst e
    rw [tot_add (h1.v n hn).1 (h2.v k hk).1]
    have := h1.tt n hn
    have := h2.tt k hk
    omega
theorem sm_one {us : List Int} (hu : pos us) {l m : List (List Int)} {a c : Nat} {t : Int} (h1 : Sm us l a t) (h2 : Sm us m c t) : Sm us (pairs us .one l m) (a + c) t := by
  refine ⟨pairs_v hu _ h1.v h2.v, ?_, fun r hr => ?_⟩
  · show (l ++ m).length ≤ _
    rw [List.length_append]
    have := h1.len
    have := h2.len
    omega
  · rcases List.mem_append.mp hr with h | h
    · exact h1.tt r h
    · exact h2.tt r h
theorem foldl_any {us : List Int} (hu : pos us) {c : Nat} {t : Int} (hc : 1 ≤ c) (ht : t < BB) : ∀ (ms : List (List (List Int))) (l : List (List Int)) (a : Nat), Sm us l a t → (∀ m ∈ ms, Sm us m c t) → a * c ^ ms.length ≤ 40 →
    okFold us .any l ms = true ∧ Sm us (ms.foldl (twoPut us .any) l) (a * c ^ ms.length) t
  | [], l, a, h, _, _ => ⟨rfl, by simpa using h⟩
  | m :: ms, l, a, h, hs, hb => by
    have hm := hs m (List.mem_cons_self ..)
    have s := sm_any hu h hm
    have e : a * c ^ (m :: ms).length = a * c * c ^ ms.length := by rw [List.length_cons, Nat.pow_succ, Nat.mul_comm (c ^ ms.length) c, ← Nat.mul_assoc]
    rw [e] at hb ⊢
    have p1 : 1 ≤ c ^ ms.length := Nat.one_le_pow _ _ hc
    have p2 : a * c * 1 ≤ a * c * c ^ ms.length := Nat.mul_le_mul_left _ p1
    have ih := foldl_any hu hc ht ms (twoPut us .any l m) (a * c) (sm_least s) (fun x hx => hs x (List.mem_cons_of_mem _ hx)) hb
    refine ⟨?_, ih.2⟩
    simp only [okFold, Bool.and_eq_true]
    exact ⟨okK_of s (by omega) ht, ih.1⟩
theorem foldl_one {us : List Int} (hu : pos us) {c : Nat} {t : Int} (ht : t < BB) : ∀ (ms : List (List (List Int))) (l : List (List Int)) (a : Nat), Sm us l a t → (∀ m ∈ ms, Sm us m c t) → a + c * ms.length ≤ 40 →
    okFold us .one l ms = true ∧ Sm us (ms.foldl (twoPut us .one) l) (a + c * ms.length) t
  | [], l, a, h, _, _ => ⟨rfl, by simpa using h⟩
  | m :: ms, l, a, h, hs, hb => by
    have hm := hs m (List.mem_cons_self ..)
    have s := sm_one hu h hm
    have e : a + c * (m :: ms).length = a + c + c * ms.length := by rw [List.length_cons, Nat.mul_add, Nat.mul_one]; omega
    rw [e] at hb ⊢
    have ih := foldl_one hu ht ms (twoPut us .one l m) (a + c) (sm_least s) (fun x hx => hs x (List.mem_cons_of_mem _ hx)) hb
    refine ⟨?_, ih.2⟩
    simp only [okFold, Bool.and_eq_true]
    exact ⟨okK_of s (by omega) ht, ih.1⟩
theorem tot_zeros (us : List Int) : tot us (zeros us) = 0 := by
  have h := tot_add (zeros_vr us).1 (zeros_vr us).1
  rw [add_zeros (zeros_vr us)] at h
  omega
theorem sm_zeros (us : List Int) {a : Nat} {t : Int} (ha : 1 ≤ a) (ht : 0 ≤ t) : Sm us [zeros us] a t :=
  ⟨fun r hr => by rw [List.mem_singleton] at hr; subst hr; exact zeros_vr us, by simpa using ha, fun r hr => by rw [List.mem_singleton] at hr; subst hr; rw [tot_zeros]; exact ht⟩
theorem dr_node {us : List Int} (hu : pos us) {c b : Nat} {t : Int} (hc : 1 ≤ c) (h3 : c ^ 3 ≤ b) (h3' : 3 * c ≤ b) (hb : b ≤ 40) (h0 : 0 ≤ t) (ht : 2 * t < BB) {w : Wd} {fs : List Form} (hl : fs.length ≤ 3) (h2 : w = .tog → fs.length ≤ 2)
    (hf : ∀ f ∈ fs, okF us f = true ∧ Sm us (rowsF us f) c t) : okF us (.node w fs) = true ∧ Sm us (rowsF us (.node w fs)) b (2 * t) := by
  have ok := okFs_of us fs fun f h => (hf f h).1
  simp only [okF, rowsF, Bool.and_eq_true]
  rw [rowsFs_map]
  have hm : ∀ g ∈ fs, Sm us (rowsF us g) c t := fun g hg => (hf g hg).2
  have p1 : c ^ 1 ≤ c ^ 3 := Nat.pow_le_pow_right hc (by omega)
  have p2 : c ^ 2 ≤ c ^ 3 := Nat.pow_le_pow_right hc (by omega)
  cases fs with
  | nil =>
    refine ⟨⟨ok, rfl⟩, ?_⟩
    cases w with
    | one => exact ⟨fun r hr => by simp [fold] at hr, by simp [fold], fun r hr => by simp [fold] at hr⟩
    | tog => exact sm_zeros us (by omega) (by omega)
    | any => exact sm_zeros us (by omega) (by omega)
  | cons f fs =>
    have hms : ∀ m ∈ fs.map (rowsF us), Sm us m c t := fun m hm' => by
      obtain ⟨g, hg, e⟩ := List.mem_map.mp hm'
      subst e
      exact hm g (List.mem_cons_of_mem _ hg)
    have hf0 := hm f (List.mem_cons_self ..)
    simp only [List.length_cons] at hl
    have hlen : (fs.map (rowsF us)).length ≤ 2 := by rw [List.length_map]; omega
    simp only [List.map_cons, okTop, fold]
    cases w with
    | any =>
      have e : c * c ^ (fs.map (rowsF us)).length ≤ c ^ 3 := by
        have q : c ^ (fs.map (rowsF us)).length ≤ c ^ 2 := Nat.pow_le_pow_right hc hlen
        have := Nat.mul_le_mul_left c q
        rw [show c ^ 3 = c * c ^ 2 by rw [Nat.pow_succ c 2, Nat.mul_comm]]
        exact this
      have q := foldl_any hu hc (show t < BB by omega) (fs.map (rowsF us)) (rowsF us f) c hf0 hms (by omega)
      exact ⟨⟨ok, q.1⟩, q.2.mono (by omega) (by omega)⟩
    | one =>
      have e : c + c * (fs.map (rowsF us)).length ≤ 3 * c := by
        have := Nat.mul_le_mul_left c hlen
        omega
      have q := foldl_one hu (show t < BB by omega) (fs.map (rowsF us)) (rowsF us f) c hf0 hms (by omega)
      exact ⟨⟨ok, q.1⟩, q.2.mono (by omega) (by omega)⟩
    | tog =>
      have h2' := h2 rfl
      simp only [List.length_cons] at h2'
      cases fs with
      | nil => exact ⟨⟨ok, rfl⟩, hf0.mono (by rw [Nat.pow_one] at p1; omega) (by omega)⟩
      | cons g gs =>
        cases gs with
        | cons _ _ => simp only [List.length_cons] at h2'; omega
        | nil =>
          have hg := hms (rowsF us g) (by simp)
          have s := sm_tog hu hf0 hg
          have e : c * c ≤ b := by rw [show c * c = c ^ 2 by rw [Nat.pow_two]]; omega
          refine ⟨⟨ok, ?_⟩, (sm_least s).mono e (Int.le_refl _)⟩
          simp only [List.map_cons, List.map_nil, okFold, Bool.and_true]
          exact okK_of s (by omega) ht
theorem dr_row {us r : List Int} (h : DrRow us r) : okF us (.row r) = true ∧ Sm us (rowsF us (.row r)) 1 3 := by
  refine ⟨by simp only [okF]; exact vrB_iff.mpr h.1, ⟨fun q hq => ?_, by simp [rowsF], fun q hq => ?_⟩⟩
  · simp only [rowsF, List.mem_singleton] at hq
    subst hq
    exact h.1
  · simp only [rowsF, List.mem_singleton] at hq
    subst hq
    exact h.2
theorem dr0 {us : List Int} {f : Form} (h : Dr us 0 f) : okF us f = true ∧ Sm us (rowsF us f) 1 3 := by
  cases f with
  | row r => exact dr_row (by simpa [Dr] using h)
  | node w fs => exact absurd h (by simp [Dr])
theorem dr1 {us : List Int} (hu : pos us) {f : Form} (h : Dr us 1 f) : okF us f = true ∧ Sm us (rowsF us f) 3 6 := by
  cases f with
  | row r =>
    have q := dr_row (us := us) (r := r) (by simpa [Dr] using h)
    exact ⟨q.1, q.2.mono (by omega) (by omega)⟩
  | node w fs =>
    simp only [Dr] at h
    exact dr_node hu (c := 1) (b := 3) (t := 3) (by omega) (by decide) (by omega) (by omega) (by omega) (by decide) h.1 h.2.1 fun g hg => dr0 (h.2.2 g hg)
theorem dr2 {us : List Int} (hu : pos us) {f : Form} (h : Dr us 2 f) : okF us f = true ∧ Sm us (rowsF us f) 27 12 := by
  cases f with
  | row r =>
    have q := dr_row (us := us) (r := r) (by simpa [Dr] using h)
    exact ⟨q.1, q.2.mono (by omega) (by omega)⟩
  | node w fs =>
    simp only [Dr] at h
    exact dr_node hu (c := 3) (b := 27) (t := 6) (by omega) (by decide) (by omega) (by omega) (by omega) (by decide) h.1 h.2.1 fun g hg => dr1 hu (h.2.2 g hg)
theorem dr_rowB {us r : List Int} (hu : pos us) (h : DrRow us r) : rowB us r = true := by
  unfold rowB
  rw [Bool.and_eq_true, decide_eq_true_eq, List.all_eq_true]
  refine ⟨h.1.1, fun x hx => ?_⟩
  rw [Bool.and_eq_true, decide_eq_true_eq, decide_eq_true_eq]
  have q := row_le_tot hu h.1.2 h.1.1 x hx
  have q2 := h.2
  exact ⟨h.1.2 x hx, Int.le_trans (Int.le_trans q q2) (by decide)⟩
theorem cnts_le (c : Nat) : ∀ fs : List Form, (∀ f ∈ fs, cnt f ≤ c) → cnts fs ≤ c * fs.length
  | [], _ => by simp [cnts]
  | f :: fs, h => by
    simp only [cnts, List.length_cons]
    have := cnts_le c fs fun g hg => h g (List.mem_cons_of_mem _ hg)
    have := h f (List.mem_cons_self ..)
    rw [Nat.mul_add]
    omega
theorem deps_le (c : Nat) : ∀ fs : List Form, (∀ f ∈ fs, dep f ≤ c) → deps fs ≤ c
  | [], _ => by simp [deps]
  | f :: fs, h => by
    simp only [deps]
    have := deps_le c fs fun g hg => h g (List.mem_cons_of_mem _ hg)
    have := h f (List.mem_cons_self ..)
    omega
theorem shps_of (us : List Int) : ∀ fs : List Form, (∀ f ∈ fs, shp us f = true) → shps us fs = true
  | [], _ => by simp [shps]
  | f :: fs, h => by
    simp only [shps, Bool.and_eq_true]
    exact ⟨h f (List.mem_cons_self ..), shps_of us fs fun g hg => h g (List.mem_cons_of_mem _ hg)⟩
def cntN : Nat → Nat
  | 0 => 1
  | n + 1 => 1 + 3 * cntN n
theorem cntN_pos : ∀ n, 1 ≤ cntN n
  | 0 => by simp [cntN]
  | n + 1 => by simp only [cntN]; omega
theorem dr_shape {us : List Int} (hu : pos us) : ∀ (n : Nat) (f : Form), Dr us n f → cnt f ≤ cntN n ∧ dep f ≤ n + 1 ∧ shp us f = true
  | n, .row r, h => by
    have h' : DrRow us r := by cases n <;> simpa [Dr] using h
    have := cntN_pos n
    refine ⟨by simp only [cnt]; omega, by simp only [dep]; omega, by simp only [shp]; exact dr_rowB hu h'⟩
  | 0, .node _ _, h => by simp [Dr] at h
  | n + 1, .node w fs, h => by
    simp only [Dr] at h
    have ih : ∀ f ∈ fs, cnt f ≤ cntN n ∧ dep f ≤ n + 1 ∧ shp us f = true := fun f hf => dr_shape hu n f (h.2.2 f hf)
    have h1 := cnts_le (cntN n) fs fun f hf => (ih f hf).1
    have h2 := deps_le (n + 1) fs fun f hf => (ih f hf).2.1
    have h3 := shps_of us fs fun f hf => (ih f hf).2.2
    have h4 : cntN n * fs.length ≤ cntN n * 3 := Nat.mul_le_mul_left _ h.1
    refine ⟨by simp only [cnt, cntN]; omega, by simp only [dep]; omega, ?_⟩
    simp only [shp, Bool.and_eq_true, decide_eq_true_eq]
    exact ⟨by omega, h3⟩

/-! ### parts, boxes -/
def partsL : List (List Int) → List Int → List (List Int)
  | found, [] => found
  | found, n :: ns => partsL (found.flatMap fun p => (List.range (n + 1).toNat).map fun (i : Nat) => p ++ [(i : Int)]) ns
theorem parts_mem : ∀ (row : List Int) (found : List (List Int)) (x : List Int), x ∈ partsL found row ↔ ∃ p ∈ found, ∃ q, x = p ++ q ∧ q.length = row.length ∧ nonneg q ∧ leB q row = true
  | [], found, x => by
    simp only [partsL]
    constructor
    · intro h
      exact ⟨x, h, [], by simp, rfl, (by intro z hz; cases hz), rfl⟩
    · rintro ⟨p, hp, q, e, hl, _, _⟩
      have : q = [] := List.eq_nil_of_length_eq_zero hl
      subst this
      rw [e, List.append_nil]
      exact hp
  | n :: ns, found, x => by
    simp only [partsL]
    rw [parts_mem ns]
    constructor
    · rintro ⟨p, hp, q, e, hl, hq, hle⟩
      obtain ⟨p0, hp0, h1⟩ := List.mem_flatMap.mp hp
      obtain ⟨i, hi, e1⟩ := List.mem_map.mp h1
      have hi' := List.mem_range.mp hi
      subst e1
      refine ⟨p0, hp0, (i : Int) :: q, by rw [e]; simp, by simp [hl], ?_, ?_⟩
      · rw [nonneg_cons]
        exact ⟨by omega, hq⟩
      · simp only [leB, Bool.and_eq_true, decide_eq_true_eq]
        exact ⟨by omega, hle⟩
    · rintro ⟨p, hp, q, e, hl, hq, hle⟩
      cases q with
      | nil => simp at hl
      | cons y ys =>
        rw [nonneg_cons] at hq
        simp only [List.length_cons] at hl
        simp only [leB, Bool.and_eq_true, decide_eq_true_eq] at hle
        refine ⟨p ++ [y], List.mem_flatMap.mpr ⟨p, hp, List.mem_map.mpr ⟨y.toNat, List.mem_range.mpr ?_, ?_⟩⟩, ys, by rw [e]; simp, by omega, hq.2, hle.2⟩
        · have := hq.1; have := hle.1; omega
        · rw [show ((y.toNat : Nat) : Int) = y by have := hq.1; omega]
theorem parts_iff {us row x : List Int} (hr : VR us row) : x ∈ partsL [[]] row ↔ VR us x ∧ leB x row = true := by
  rw [parts_mem]
  constructor
  · rintro ⟨p, hp, q, e, hl, hq, hle⟩
    rw [List.mem_singleton] at hp
    subst hp
    rw [List.nil_append] at e
    subst e
    exact ⟨⟨by rw [hl]; exact hr.1, hq⟩, hle⟩
  · rintro ⟨h, hle⟩
    exact ⟨[], List.mem_singleton.mpr rfl, x, by simp, by rw [h.1, hr.1], h.2, hle⟩
def boxes (N : Nat) : Nat → List (List Int)
  | 0 => [[]]
  | d + 1 => (List.range (N + 1)).flatMap fun (i : Nat) => (boxes N d).map fun r => (i : Int) :: r
theorem boxes_len (N : Nat) : ∀ d, (boxes N d).length = (N + 1) ^ d
  | 0 => rfl
  | d + 1 => by
    simp only [boxes]
    rw [len_prod (fun (i : Nat) (r : List Int) => (i : Int) :: r), boxes_len N d, List.length_range, Nat.pow_succ, Nat.mul_comm]
theorem boxes_mem (N : Nat) : ∀ (d : Nat) (x : List Int), x.length = d → (∀ e ∈ x, 0 ≤ e ∧ e ≤ (N : Int)) → x ∈ boxes N d
  | 0, [], _, _ => by simp [boxes]
  | d + 1, y :: ys, hl, h => by
    simp only [List.length_cons] at hl
    have hy := h y (List.mem_cons_self ..)
    simp only [boxes]
    refine List.mem_flatMap.mpr ⟨y.toNat, List.mem_range.mpr (by omega), List.mem_map.mpr ⟨ys, boxes_mem N d ys (by omega) fun e he => h e (List.mem_cons_of_mem _ he), ?_⟩⟩
    rw [show ((y.toNat : Nat) : Int) = y by omega]
theorem nodup_sub {α : Type} [DecidableEq α] : ∀ (l D : List α), l.Nodup → (∀ x ∈ l, x ∈ D) → l.length ≤ D.length
  | [], _, _, _ => Nat.zero_le _
  | x :: xs, D, hn, hs => by
    have hn' := List.nodup_cons.mp hn
    have hx := hs x (List.mem_cons_self ..)
    have ih := nodup_sub xs (D.erase x) hn'.2 fun y hy => by
      have hne : y ≠ x := fun e => hn'.1 (e ▸ hy)
      exact (List.mem_erase_of_ne hne).mpr (hs y (List.mem_cons_of_mem _ hy))
    rw [List.length_erase_of_mem hx] at ih
    have : 0 < D.length := List.length_pos_of_mem hx
    simp only [List.length_cons]
    omega
theorem reach_few {us r : List Int} (hu : pos us) (hr : VR us r) (ht : tot us r ≤ 40) (h2 : us.length ≤ 2) {l : List (List Int)} (hn : l.Nodup) (hs : ∀ x ∈ l, Reach us r x) : l.length ≤ 68921 := by
  have h1 := nodup_sub l (boxes 40 (us.length + 1)) hn fun x hx => by
    obtain ⟨v, _, e⟩ := reach_vr hu hr (hs x hx)
    refine boxes_mem 40 _ x v.1 fun y hy => ⟨v.2 y hy, ?_⟩
    have := row_le_tot hu v.2 v.1 y hy
    omega
  rw [boxes_len] at h1
  have h3 : (40 + 1) ^ (us.length + 1) ≤ (40 + 1) ^ 3 := Nat.pow_le_pow_right (by omega) (by omega)
  exact Nat.le_trans h1 h3
theorem dot_snoc : ∀ (p ss : List Int) (x s : Int), ss[p.length]? = some s → dot (p ++ [x]) ss = dot p ss + x * s
  | [], s' :: ss, x, s, h => by
    simp at h
    subst h
    simp [dot]
  | [], [], _, _, h => by simp at h
  | y :: ys, [], _, _, h => by simp at h
  | y :: ys, z :: ss, x, s, h => by
    simp only [List.length_cons, List.getElem?_cons_succ] at h
    simp only [List.cons_append, dot]
    rw [dot_snoc ys ss x s h]
    omega
end SY

namespace SY
/-! ### the written formulas -/
def fThree : Form := .row [0, 3]
def fOne : Form := .node .one [.row [0, 3], .row [1, 1], .row [1, 0]]
def f01 : Form := .row [0, 1]
def sevenR (k : Nat) : Form := .row [(k : Int), 70 - 5 * (k : Int)]
def fSeven : Form := .node .one [.node .one [sevenR 0, sevenR 1, sevenR 2, sevenR 3], sevenR 4, sevenR 5, sevenR 6]
/-- the written formulas with what is due -/
def written : List (Form × List (List Int)) := [
  (fOne, [[0, 3], [1, 0]]), (.node .any [fOne, f01], [[0, 3], [1, 0]]), (.node .tog [fOne, f01], [[0, 4], [1, 1]]),
  (.node .one [], []), (.node .any [], [[0, 0]]), (.node .tog [], [[0, 0]]), (.node .any [fThree], [[0, 3]]),
  (.node .tog [.row [10 ^ 60, 0], .row [10 ^ 60, 7]], [[2 * 10 ^ 60, 7]]), (.node .any [.row [0, 5], .row [2, 0]], [[2, 1]]),
  (.node .any [fSeven, fSeven], [[0, 70], [1, 65], [2, 60], [3, 55], [4, 50], [5, 45], [6, 40]])]
/-- what a formula is asked for: its shape, its parts, its depth, the bounds of its work -/
def Fine (us : List Int) (f : Form) : Prop := shp us f = true ∧ cnt f ≤ 20 ∧ dep f ≤ 6 ∧ okF us f = true
instance (us : List Int) (f : Form) : Decidable (Fine us f) := inferInstanceAs (Decidable (_ ∧ _ ∧ _ ∧ _))
theorem written_fine : ∀ p ∈ written, Fine [2] p.1 ∧ rowsF [2] p.1 = p.2 := by
  decide +kernel
theorem dr_fine {us : List Int} (hu : pos us) {f : Form} (h : Dr us 2 f) : Fine us f := by
  have q := dr_shape hu 2 f h
  exact ⟨q.2.2, Nat.le_trans q.1 (by decide), by omega, (dr2 hu h).1⟩
end SY

namespace SR
open PySem PySem.Spec PyProof.Rows L2
open PySem (Sem)
/-! ### enumerate(tuple) -/
section
open AutoSeq1 (wpAny_loadPart')
theorem meets_enum_newT (l : Addr) (items : Array Value) (n : Nat) (dct : Option Addr) (sl : Array (Option Value)) :
    Meets (Builtin.«enumerate.__new__» ⟨[.type "enumerate", .ref l], []⟩) (fun _ R s => s.heap.get? l = some { cls := .type "tuple", dict := dct, data := .seq items n, slots := sl } ∧
      R (.ok (.ret (.ref (s.heap.push { cls := .type "tuple_iterator", data := .fields #[.ref l, .int 0 0] }).objs.size)))
        { s with heap := (s.heap.push { cls := .type "tuple_iterator", data := .fields #[.ref l, .int 0 0] }).push { cls := .type "enumerate", data := .fields #[.none, .bool false, .ref s.heap.objs.size, rawInt 0, .none, .none] } }) :=
  .of_wp fun prog w A R s h => by
    obtain ⟨hp, g, d, tk, os⟩ := s; obtain ⟨hl, h⟩ := h
    have hsub := sub_enumerate
    have hL : Heap.IsTuple (Shared.heap ⟨hp, g, d, tk, os⟩) l items := ⟨_, hl, rfl, n, rfl⟩
    wp_walk using wpAny_loadPart' hl
    refine wpAny_stack_any fun st => wpAny_pure ?_
    split
    · rename_i c _ _ _ _ _
      cases (c == Value.type "enumerate")
      · wp_walk using wpAny_loadPart' hl, wpAny_pyIter_tuple hL
        exact ⟨_, rfl, h⟩
      · wp_walk using wpAny_loadPart' hl, wpAny_pyIter_tuple hL
        exact ⟨_, rfl, h⟩
    · wp_walk using wpAny_loadPart' hl, wpAny_pyIter_tuple hL
      exact ⟨_, rfl, h⟩
end
section
variable {prog : Program} {w : World} {A : Around} {E : Value → Shared → Prop} {s : Shared}
theorem call_enum_tuple {l : Addr} {items : Array Value} {Q : Value → Shared → Prop} (hL : s.heap.IsTuple l items)
    (h : ∀ h', IsEnum h' (s.heap.objs.size + 1) s.heap.objs.size 0 .none → h'.IsTupleIter s.heap.objs.size l 0 → h'.objs.size = s.heap.objs.size + 2 →
      (∀ b o, s.heap.get? b = some o → h'.get? b = some o) → Q (.ref (s.heap.objs.size + 1)) { s with heap := h' }) :
    wpAny (model prog w) A (call (.type "enumerate") [.ref l]) Q E s := by
  obtain ⟨⟨c, dct, dt, sl⟩, hl, hc, n, hd⟩ := hL
  replace hc : c = .type "tuple" := hc
  replace hd : dt = .seq items n := hd
  subst hc hd
  refine callType_new F.called_enumerate (by decide) (F.typeCall_enumerate_1 _) (F.newCall_enumerate_1 _) (fun obj => F.args_object_init_2 obj _) F.entry_enumerate_new
    (meets_enum_newT l items n dct sl) ⟨hl, ?_⟩
  have hz : (s.heap.push { cls := .type "tuple_iterator", data := .fields #[.ref l, .int 0 0] }).objs.size = s.heap.objs.size + 1 := Heap.size_push ..
  show _ ∧ _
  rw [hz]
  have he : IsEnum ((s.heap.push { cls := .type "tuple_iterator", data := .fields #[.ref l, .int 0 0] }).push
      { cls := .type "enumerate", data := .fields #[.none, .bool false, .ref s.heap.objs.size, rawInt 0, .none, .none] }) (s.heap.objs.size + 1) s.heap.objs.size 0 .none := by
    have := Heap.get?_push_size (s.heap.push { cls := .type "tuple_iterator", data := .fields #[.ref l, .int 0 0] })
      (o := { cls := .type "enumerate", data := .fields #[.none, .bool false, .ref s.heap.objs.size, rawInt 0, .none, .none] }) rfl
    rw [hz] at this; exact this
  refine ⟨⟨_, he, rfl⟩, h _ he ⟨_, Heap.get?_push_of_some _ (Heap.get?_push_size _ rfl), rfl, rfl⟩ (by rw [Heap.size_push, hz]) fun b o x => Heap.get?_push_of_some _ (Heap.get?_push_of_some _ x)⟩
end
/-- the tuple at a, each item in a new pair -/
def IteT (K : PySem.W.Frag) (a : Addr) : It :=
  ⟨fun i H => ∃ (xs : List V) (x : V), SqT K H a xs ∧ xs[i]? = some x, fun i H v H' => ∃ T x, v = .ref T ∧ H T = none ∧ H' = upd H T (.tup [.int (i : Nat), x]) ∧ ∀ xs, SqT K H a xs → xs[i]? = some x, fun i H => ∃ xs : List V, SqT K H a xs ∧ xs.length ≤ i⟩
theorem turn_enumT {P : Program} {w : World} {K : PySem.W.Frag} {elts : List Expr} {kk : Nat} {tpos : Pos} (a e it : Addr) :
    Turn P w K (.Tuple elts kk tpos) (IteT K a) [e, it] e (fun i h => (∃ old, IsEnum h e it ((i : Nat) : Int) old) ∧ h.IsTupleIter it a i ∧ e ≠ it) where
  mem := by simp
  obj := fun i h st b hb => by
    obtain ⟨⟨old, he⟩, ⟨o, ho, hc, hd⟩, _⟩ := st
    have e' : b = e ∨ b = it := by simpa using hb
    rcases e' with z | z
    · rw [z]; exact ⟨_, he, fun v q => nomatch q⟩
    · rw [z]; exact ⟨o, ho, fun v q => by rw [hd] at q; cases q⟩
  keep := fun i h h' st k => let ⟨⟨old, he⟩, hi, hne⟩ := st; ⟨⟨old, k e (by simp) _ he⟩, hi.at fun o q => k it (by simp) o q, hne⟩
  item := by
    intro X hP hw hK hc i pins s σ H E I hf st hg
    subst hP hw hK
    obtain ⟨⟨old, he⟩, hit, hne⟩ := st
    obtain ⟨xs, x, hq, hx⟩ := hg
    obtain ⟨its, rv, p, hz⟩ := I.tuple hq
    obtain ⟨u, hu, ru⟩ := rv.get hx
    have hel : e < s.heap.objs.size := Heap.lt_size he
    have hil : it < s.heap.objs.size := by obtain ⟨_, q, _⟩ := hit; exact Heap.lt_size q
    have hait : a ≠ it := by
      intro q
      obtain ⟨o1, h1, c1, _⟩ := id p
      obtain ⟨o2, h2, c2, _⟩ := id hit
      rw [q, h2] at h1
      cases h1
      rw [c1] at c2
      exact absurd c2 (by decide)
    have hae : a ≠ e := by
      intro q
      obtain ⟨o1, h1, c1, _⟩ := id p
      rw [q, show s.heap.get? e = _ from he] at h1
      cases h1
      have c2 : Value.type "enumerate" = Value.type "tuple" := c1
      exact absurd c2 (by decide)
    have D : Draws X.prog X.w X.A.in1 it [it, a] its.toArray.size (fun i v => its.toArray[i]? = some v) (fun i h => h.IsTupleIter it a i ∧ h.IsTuple a its.toArray) := Draws.tuple (A := X.A.in1) (show X.A.in1.handled = none from I.ok.hd hc) it a hait its.toArray
    have hlt : i < its.toArray.size := by
      have := (List.getElem?_eq_some_iff.mp hu).1
      simpa using this
    refine wpAny_pyNext_enum_itemD D he ⟨hit, p⟩ hlt hne (by simp [hne, Ne.symm hae]) fun y h' tk hy ho hst' hT hsz hk => ?_
    have ey : y = u := by
      have h1 : its.toArray[i]? = some u := by simpa using hu
      rw [h1] at hy
      exact (Option.some.inj hy).symm
    subst ey
    refine ⟨_, rfl, wpAny_letOwnedTupleGo_enum (s := { s with heap := h', toks := tk + 1 }) ho fun h'' he' sb => ?_⟩
    have hT2 : h''.get? s.heap.objs.size = some { cls := .type "tuple", data := .seq #[.int i tk, y] } := (sb.2 _ (Nat.ne_of_gt hel)).trans hT
    have new : ObjOk X.prog X.w (upd H s.heap.objs.size (.tup [.int (i : Nat), x])) h'' s.heap.objs.size (.tup [.int (i : Nat), x]) :=
      ⟨by show 2 ≤ sizeLine; decide, [.int i tk, y], .cons ⟨_, rfl⟩ (.cons ru .nil), ⟨_, hT2, rfl, _, rfl⟩⟩
    have I1 : Inv X pins σ (upd H s.heap.objs.size (.tup [.int (i : Nat), x])) { s with heap := h'', toks := tk + 1 } :=
      I.turnedNew (ch := [e, it]) (fun b ob hb q => (sb.2 b (fun z => hb (by simp [z]))).trans (hk b ob (fun z => hb (by simp [z])) (fun z => hb (by simp [z])) q)) hf (Nat.le_refl _) new
    refine ⟨.ref s.heap.objs.size, _, I1, rfl, ⟨_, x, rfl, I.hok.fresh (Nat.le_refl _), rfl, fun ys hy => by rw [I.tuple_inj hy hq]; exact hx⟩, ⟨⟨y, ?_⟩, hst'.1.at fun o q => (sb.2 it (Ne.symm hne)).trans q, hne⟩, fun b hb => ?_⟩
    · have e1 : ((i + 1 : Nat) : Int) = (i : Int) + 1 := by omega
      rw [e1]; exact he'
    · have hb' : b < s.heap.objs.size := by
        have e' : b = e ∨ b = it := by simpa using hb
        rcases e' with z | z
        · rw [z]; exact hel
        · rw [z]; exact hil
      rw [upd_ne (Nat.ne_of_lt hb')]
      exact (hf b hb).1
  done := by
    intro X hP hw hK hc i pins s σ H E I hf st hg
    subst hP hw hK
    obtain ⟨⟨old, he⟩, hit, hne⟩ := st
    obtain ⟨xs, hq, hx⟩ := hg
    obtain ⟨its, rv, p, hz⟩ := I.tuple hq
    obtain ⟨f0, f1, f2, f3, f4, f5⟩ := hf it (by simp)
    have hl := rv.length
    have hT : s.TypeIs (.ref e) "enumerate" := ⟨_, he, rfl⟩
    unfold pyNext
    refine wpAny_bind (wpAny_attempt (wpAny_callSpecial?_slot (name := Str.ofString "__next__") hT F.slot_enumerate_next
      (wpAny_call_entry F.slot_enumerate_next hT F.entry_enumerate_next ?_ (F.args_enumerate_next_1 _))))
    show wpAny _ _ (field (.ref e) 2 >>= _) _ _ _
    refine wpAny_bind (wpAny_field he rfl (x := .ref it) rfl ?_)
    refine wpAny_bind (wpAny_nextOf_tuple_end (I.ok.hd hc) hit p (by simp; omega) fun h' x he' hx' => ?_)
    obtain ⟨o, ho, hc'⟩ := hx'
    refine wpAny_bind (wpAny_isInstance (T := "StopIteration") (b := true) ⟨o, ho, hc'⟩ isSubtype_stop ?_)
    exact wpAny_pure ⟨rfl, I.turned (t' := s.toks) (fun b o hb e => he' b o hb e) f0 f1 f3 f4 f5⟩
  self := fun A i s Q E st h => let ⟨⟨_, he⟩, _⟩ := st; wpAny_pyIter_enum he h
def iEnumT (K : PySem.W.Frag) (ta : TA) : TI := fun σ H R => ta σ H fun vs H1 => ∃ a xs, vs = [.ref a] ∧ SqT K H1 a xs ∧ R (IteT K a) H1
theorem pi_enumT {X : Cx} {e : Expr} {ta : TA} {p pos tpos : Pos} {elts : List Expr} {kk : Nat} (hg : Gl X "enumerate") (hm : X.mg "enumerate" = none) (ha : PA X [e] ta) (hs : starEach [e] X.env = [(false, eval e X.env)] := by rfl) :
    PI X (.Tuple elts kk tpos) (.Call (.Name "enumerate" p) [e] [] pos) (iEnumT X.K ta) := by
  refine ⟨fun pins s σ H R I h => ?_⟩
  refine Call_ (ld_blt I hg hm boot_enumerate (PyProof.Rows.callWith_type1 (thn (ha.run pos pins s σ H _ I h) fun us s1 ⟨vs, H1, I1, r1, q1⟩ => ?_) hs rfl))
  obtain ⟨a, xs, ex, hq, q⟩ := q1
  subst ex
  cases r1 with
  | cons r rr =>
    cases rr
    cases r
    obtain ⟨its, rv, p', hz⟩ := I1.tuple hq
    refine call_enum_tuple p' fun h' he hit hsz hk => wpAny_pyIter_enum he ?_
    have I2 : Inv X pins σ H1 { s1 with heap := h' } := I1.kept (t' := s1.toks) hk
    refine ⟨s1.heap.objs.size + 1, [s1.heap.objs.size + 1, s1.heap.objs.size], _, _, H1, rfl, I2, turn_enumT a (s1.heap.objs.size + 1) s1.heap.objs.size, ⟨⟨.none, he⟩, hit, Nat.succ_ne_self _⟩, fun b hb => ?_, q⟩
    have e' : b = s1.heap.objs.size + 1 ∨ b = s1.heap.objs.size := by simpa using hb
    have hle : s1.heap.objs.size ≤ b := by
      rcases e' with z | z
      · rw [z]; exact Nat.le_add_right _ _
      · rw [z]; exact Nat.le_refl _
    exact I1.fpOk hle (I1.hok.fresh hle)
theorem walk_enumT {K : PySem.W.Frag} {a : Addr} {xs : List V} : Walk (IteT K a) xs.length (fun H => SqT K H a xs) (YPair (fun i => some (.int (i : Nat))) (fun i => xs[i]?)) := by
  refine ⟨fun i _ hi q => ⟨xs, xs[i], q, by simp [hi]⟩, fun _ q => ⟨xs, q, Nat.le_refl _⟩, fun i H v H' _ q y => ?_⟩
  obtain ⟨T, x, h1, h2, h3, h4⟩ := y
  exact ⟨T, .int (i : Nat), x, h1, h2, h3, rfl, h4 xs q⟩
theorem walk_zipT {K : PySem.W.Frag} {a b : Addr} {xs ys : List V} {n : Nat} (hn : n = min xs.length ys.length) : Walk (RZ.ItzT K a b) n (fun H => SqT K H a xs ∧ SqT K H b ys) (YPair (fun i => xs[i]?) (fun i => ys[i]?)) := by
  subst hn
  refine ⟨fun i _ hi q => ?_, fun _ q => ⟨xs, ys, q.1, q.2, by omega⟩, fun i H v H' _ q y => ?_⟩
  · have h1 : i < xs.length := by omega
    have h2 : i < ys.length := by omega
    exact ⟨xs, ys, xs[i], ys[i], q.1, q.2, by simp [h1], by simp [h2]⟩
  · obtain ⟨T, x, z, h1, h2, h3, h4, h5⟩ := y
    exact ⟨T, x, z, h1, h2, h3, h4 xs q.1, h5 ys q.2⟩

/-! ### min(tuple of ints) -/
def rMinT (K : PySem.W.Frag) : List V → Hp → VK → Prop := fun vs H Q => ∃ (a : Addr) (ns : List Int), vs = [V.ref a] ∧ SqT K H a (ns.map V.int) ∧ 0 < ns.length ∧ ∀ m, m ∈ ns → (∀ y, y ∈ ns → m ≤ y) → Q (.int m) H
theorem minOf_int : ∀ (xs : List Int) (x : Int), PySem.W.minOf x xs ∈ x :: xs ∧ ∀ y ∈ x :: xs, PySem.W.minOf x xs ≤ y
  | [], x => ⟨List.mem_cons_self .., fun y hy => by rw [List.mem_singleton] at hy; subst hy; exact Int.le_refl _⟩
  | z :: zs, x => by
    have e : PySem.W.minOf x (z :: zs) = PySem.W.minOf (if decide (z < x) = true then z else x) zs := rfl
    rw [e]
    by_cases h : z < x
    · rw [if_pos (decide_eq_true h)]
      have ih := minOf_int zs z
      refine ⟨List.mem_cons_of_mem _ ih.1, fun y hy => ?_⟩
      rcases List.mem_cons.mp hy with q | q
      · subst q
        have := ih.2 z (List.mem_cons_self ..)
        omega
      · exact ih.2 y q
    · rw [if_neg (by rw [decide_eq_true_eq]; exact h)]
      have ih := minOf_int zs x
      refine ⟨?_, fun y hy => ?_⟩
      · rcases List.mem_cons.mp ih.1 with q | q
        · rw [q]; exact List.mem_cons_self ..
        · exact List.mem_cons_of_mem _ (List.mem_cons_of_mem _ q)
      · rcases List.mem_cons.mp hy with q | q
        · subst q
          exact ih.2 y (List.mem_cons_self ..)
        · rcases List.mem_cons.mp q with q | q
          · subst q
            have := ih.2 x (List.mem_cons_self ..)
            omega
          · exact ih.2 y (List.mem_cons_of_mem _ q)
section
variable {X : Cx}
theorem cr_minT {k : Nat} (hc : X.calm = true) (hr : Room k X.A) : CallR X (.builtin "min") (rMinT X.K) := by
  intro pins s σ H vs us Q I r h
  obtain ⟨a, ns, rfl, hs, hne, q⟩ := h
  obtain ⟨its, rv, hl, _⟩ := I.tuple hs
  rw [Vals.ref1 r]
  cases ns with
  | nil => simp at hne
  | cons x xs =>
    have hm := minOf_int xs x
    refine PySem.W.min_tuple_datum (x := x) (xs := xs) (I.ok.hd hc) (show s.heap.IsTuple a its.toArray from hl) (PySem.W.HoldAll.of_ints (by simpa using rv.ints)) (by have := hr.units; show X.A.units + 1 + 0 < cLine; omega) fun i v h' tk hi hv hk => ?_
    have hv' : ∃ t, v = Value.int (PySem.W.minOf x xs) t := by
      obtain ⟨as, rd⟩ := hv
      cases rd with
      | int _ t => exact ⟨t, rfl⟩
    obtain ⟨t, rfl⟩ := hv'
    exact ⟨.int _, H, I.kept hk, ⟨_, rfl⟩, q _ hm.1 hm.2⟩
end
end SR

namespace SR
open PySem PySem.Spec PyProof.Rows L2
open PySem (Sem)
/-! ### t[::-1] of a tuple -/
section
variable {prog : Program} {w : World} {A : Around} {E : Value → Shared → Prop} {s : Shared}
theorem slice_back {sl : Addr} {n : Nat} {u : Tok} {Q : Int × Int × Nat → Shared → Prop} (hs : s.heap.IsSliceOf sl .none .none (.int (-1) u))
    (h : Q ((n : Int) - 1, -1, n) s) : wpAny (model prog w) A (Builtin.Slice.sliceApplied (.ref sl) (pure (n : Int))) Q E s := by
  obtain ⟨os, hos, hcs, hds⟩ := id hs
  unfold Builtin.Slice.sliceApplied Builtin.Slice.sliceFields
  refine wpAny_bind (wpAny_bind (wpAny_field hos hds (x := .none) rfl (wpAny_bind (wpAny_field hos hds (x := .none) rfl (wpAny_bind (wpAny_field hos hds (x := .int (-1) u) rfl (wpAny_pure ?_)))))))
  refine wpAny_bind (HT.slicePart_ (.int _ _) ?_)
  show wpAny _ _ (if ((-1 : Int) == 0) = true then _ else _) _ _ s
  rw [if_neg (by decide)]
  refine wpAny_bind (HT.slicePart_ .none (wpAny_bind (HT.slicePart_ .none (wpAny_bind (wpAny_pure ?_)))))
  show wpAny _ _ (match Builtin.Slice.sliceAdjust none none (-1) (n : Int) with | (lo, hi) => pure (lo, (-1 : Int), Builtin.Slice.slicePlaces lo hi (-1))) _ _ s
  have e1 : Builtin.Slice.sliceAdjust none none (-1) (n : Int) = ((n : Int) - 1, -1) := rfl
  have e2 : Builtin.Slice.slicePlaces ((n : Int) - 1) (-1) (-1) = n := by
    unfold Builtin.Slice.slicePlaces
    have h1 : ¬ ((-1 : Int) > 0) := by decide
    simp only [h1, if_false]
    have h2 : (- -1 : Int) = 1 := by decide
    rw [h2]
    by_cases h3 : (n : Int) - 1 > -1
    · rw [if_pos h3, Int.ediv_one]
      omega
    · rw [if_neg h3]
      omega
  rw [e1]
  show wpAny _ _ (pure ((n : Int) - 1, (-1 : Int), Builtin.Slice.slicePlaces ((n : Int) - 1) (-1) (-1))) _ _ s
  rw [e2]
  exact wpAny_pure h
theorem pick_back (xs : Array Value) : ((List.range xs.size).filterMap fun (k : Nat) => xs[(((xs.size : Int) - 1) + (k : Int) * (-1)).toNat]?).toArray = xs.toList.reverse.toArray := by
  have e : (fun (k : Nat) => xs[(((xs.size : Int) - 1) + (k : Int) * (-1)).toNat]?) = (fun j : Nat => xs[j]?) ∘ fun k => xs.size - 1 - k := by
    funext k
    have : (((xs.size : Int) - 1) + (k : Int) * (-1)).toNat = xs.size - 1 - k := by omega
    rw [this]
    rfl
  rw [e, ← List.filterMap_map, PySem.W.krv_range, List.filterMap_reverse, PySem.W.krv_all]
theorem getItem_tuple_back {t sl : Addr} {items : Array Value} {u : Tok} {Q : Value → Shared → Prop} (ht : IsTup s.heap t items) (hs : s.heap.IsSliceOf sl .none .none (.int (-1) u))
    (h : Q (.ref s.heap.objs.size) { s with heap := s.heap.push { cls := .type "tuple", data := .seq items.toList.reverse.toArray } })
    (hsz : items.size ≤ sizeLine) : wpAny (model prog w) A (getItem (.ref t) (.ref sl)) Q E s := by
  have htake : sizeOk (.seq items.toList.reverse.toArray) := by
    show items.toList.reverse.toArray.size ≤ sizeLine
    simpa using hsz
  obtain ⟨os, hos, hcs, hds⟩ := id hs
  have hTs : s.TypeIs (.ref sl) "slice" := ⟨os, hos, hcs⟩
  unfold getItem
  try with_reducible refine wpAny_holding ?_
  first | refine wpAny_bind (wpAny_pure ?_) | skip
  refine wpAny_bind (wpAny_sequenceKey ht.typeIs (by decide) ?_)
  refine wpAny_bind (wpAny_callSpecial?_slot (name := Str.ofString "__getitem__") ht.typeIs PyProof.Rows.slot_tuple_getitem
    (wpAny_call_entry PyProof.Rows.slot_tuple_getitem ht.typeIs entry_tuple_getitem ?_ (args_tuple_getitem _ _)))
  show wpAny _ _ (Builtin.Tuple.tupleItemsOf (.ref t) >>= _) _ _ s
  refine wpAny_bind (tupleItemsOf_ ht ?_)
  refine wpAny_bind (wpAny_typeOf hTs ?_)
  rw [if_pos (by decide)]
  refine wpAny_bind (slice_back (n := items.size) hs ?_)
  show wpAny _ _ (if (((items.size : Int) - 1) == 0 && (-1 : Int) == 1 && items.size == items.size) = true then _ else _) _ _ s
  have hno : ¬ ((((items.size : Int) - 1) == 0 && (-1 : Int) == 1 && items.size == items.size) = true) := by
    intro q
    rw [Bool.and_eq_true, Bool.and_eq_true] at q
    exact absurd q.1.2 (by decide)
  rw [if_neg hno, pick_back]
  first
    | exact wpAny_bind (m := Builtin.Tuple.tupleExact _) (wpAny_newObj_type (wpAny_pure ⟨_, rfl, wpAny_pure h⟩) htake)
    | exact wpAny_bind (m := Builtin.Tuple.tupleExact _) (wpAny_newObj_type (wpAny_bind (wpAny_pure (wpAny_pure ⟨_, rfl, wpAny_pure h⟩))) htake)
    | exact wpAny_bind (wpAny_bind (m := Builtin.Tuple.tupleExact _) (wpAny_newObj_type (wpAny_pure (wpAny_pure ⟨_, rfl, wpAny_pure h⟩)) htake))
    | exact wpAny_bind (wpAny_bind (m := Builtin.Tuple.tupleExact _) (wpAny_newObj_type (wpAny_pure ⟨_, rfl, wpAny_pure h⟩) htake))
end
def tRevT (K : PySem.W.Frag) (te : TE) : TE := fun σ H Q => te σ H fun x H1 => ∃ a xs, x = .ref a ∧ SqT K H1 a xs ∧ ∀ p, H1 p = none → Q (.ref p) (upd H1 p (.tup xs.reverse))
section
variable {X : Cx}
theorem pe_revT {e : Expr} {te : TE} {k : Nat} {p1 p2 p3 pos : Pos} (he : PE X e te) : PE X (.Subscript e (.Slice none none (some (.UnaryOp .USub (.Constant (.int 1) k p1) p2)) p3) pos) (tRevT X.K te) := by
  refine ⟨fun pins s σ H Q I h => ?_⟩
  refine Subscript_ (thn (he.run pins s σ H _ I h) fun v s1 ⟨x, H1, I1, r1, q1⟩ => ?_)
  obtain ⟨a, xs, ex, hx, q⟩ := q1
  subst ex
  cases r1
  have hst : PO X (some (.UnaryOp .USub (.Constant (.int 1) k p1) p2)) (tPart (tUn (rU fun i => .int (-i)) (tC (.int 1)))) := po_some (pe_un un_neg pe_int)
  refine wpAny_Slice (thn (po_none.run pins s1 σ H1 (fun o H2 => o = none ∧ H2 = H1) I1 ⟨rfl, rfl⟩) fun vl s2 ⟨l, H2, I2, pl, el, e2⟩ => ?_)
  subst el e2
  refine thn (po_none.run pins s2 σ H2 (fun o H3 => o = none ∧ H3 = H2) I2 ⟨rfl, rfl⟩) fun vu s3 ⟨u, H3, I3, pu, eu, e3⟩ => ?_
  subst eu e3
  refine thn (hst.run pins s3 σ H3 (fun o H4 => o = some (-1) ∧ H4 = H3) I3 ⟨1, rfl, -1, rfl, rfl, rfl⟩) fun vs s4 ⟨o, H4, I4, ps, eo, e4⟩ => ?_
  subst eo e4
  cases pl
  cases pu
  cases ps with
  | int _ tk =>
    have I5 : Inv X pins σ H4 { s4 with heap := s4.heap.push { cls := .type "slice", data := .fields #[.none, .none, .int (-1) tk] } } := I4.kept (t' := s4.toks) fun b ob q => Heap.get?_push_of_some _ q
    obtain ⟨its, r, ht, hz⟩ := I5.tuple hx
    have hlen := r.length
    show wpAny (model X.prog X.w) X.A (subscriptTail e (.Slice none none (some (.UnaryOp .USub (.Constant (.int 1) k p1) p2)) p3) (.ref a) (.ref s4.heap.objs.size)) (EP X pins σ Q) X.xe { s4 with heap := s4.heap.push { cls := .type "slice", data := .fields #[.none, .none, .int (-1) tk] } }
    refine tail_any (ops := [.ref a, .ref s4.heap.objs.size]) ht.typeIs PyProof.Rows.slot_tuple_getitem.lookup ?_ (by with_unfolding_all rfl)
    refine getItem_tuple_back ht (Heap.IsSliceOf.new _ _ _ _) ?_ (by rw [List.size_toArray]; omega)
    refine ⟨.ref _, _, I5.laid (t' := s4.toks) (o := .tup xs.reverse) (fun b ob q => Heap.get?_push_of_some _ q) (Nat.le_refl _) ?_, rfl, q _ (I5.hok.fresh (Nat.le_refl _))⟩
    exact ⟨by rw [List.length_reverse]; exact hz, its.reverse, r.reverse, ⟨_, Heap.get?_push_size _ rfl, rfl, _, rfl⟩⟩
end

/-! ### tuple * 1 -/
section
open AutoSeq1 (wpAny_loadPart')
theorem tuple_mul_one (l : Addr) (items : Array Value) (n : Nat) (dd : Option Addr) (sl : Array (Option Value)) (u : Tok) :
    Meets (Builtin.«tuple.__mul__» ⟨[.ref l, .int 1 u], []⟩) (fun _ R s => s.heap.get? l = some { cls := .type "tuple", dict := dd, data := .seq items n, slots := sl } ∧ R (.ok (.ret (Value.ref l))) s) :=
  .of_wp fun prog w A R s h => by
    obtain ⟨hp, g, d, tk, os⟩ := s
    obtain ⟨hl, h⟩ := h
    have f1 := AutoSeq1.idx_int
    have ht : Shared.TypeIs ⟨hp, g, d, tk, os⟩ (.ref l) "tuple" := ⟨_, hl, rfl⟩
    wp_walk using wpAny_loadPart' hl
    repeat (first
      | (refine wpAny_ite_false (by decide) ?_; wp_walk using wpAny_loadPart' hl)
      | (refine wpAny_ite_true (by simp) ?_; wp_walk using wpAny_loadPart' hl))
    all_goals first
      | exact ⟨_, rfl, h⟩
      | skip
end
def rRepT1 (K : PySem.W.Frag) : R2 := fun x y H Q => ∃ l xs, x = .ref l ∧ y = .int 1 ∧ SqT K H l xs ∧ Q (.ref l) H
section
variable {X : Cx}
theorem op_repT1 : OpR X (binaryOp .Mult) (rRepT1 X.K) := by
  intro pins s σ H x y v u Q I rx ry h
  obtain ⟨l, xs, rfl, rfl, hT, q⟩ := h
  cases rx
  obtain ⟨t, rfl⟩ := ry
  obtain ⟨its, r, ⟨⟨cls, dd, data, sl⟩, ho, hc, n, hd⟩, hs⟩ := I.tuple hT
  simp only at hc hd
  subst hc hd
  refine wpAny_binaryOp_repeat_ref (T := "tuple") (U := "int") (by decide) ⟨_, ho, rfl⟩ (fun s' => typeIs_int s' 1 t) noFill_tuple_mul F.fills_int_mul F.slot_int_rmul repeat_tuple F.slot_int_index.lookup
    (call_meets F.slot_int_rmul (typeIs_int s 1 t) F.entry_int_rmul (F.args_int_rmul_2 _ _) (int_rmul_tuple 1 t l its.toArray n dd sl)
      ⟨ho, rfl, ⟨_, ho, rfl⟩, call_meets F.slot_tuple_mul ⟨_, ho, rfl⟩ F.entry_tuple_mul (F.args_tuple_mul_2 _ _) (tuple_mul_one l its.toArray n dd sl t) ⟨ho, ?_⟩⟩)
  exact ⟨.ref l, H, I, rfl, q⟩
end

/-! ### zip held by a name -/
section
variable {X : Cx} {pins : List (Addr × Obj)} {σ : L2.St} {H : Hp} {s : Shared} {a : Addr} {φ : Heap → Prop}
/-- a young untracked thing is tracked from here on -/
theorem inv_track (I : Inv X pins σ H s) (f : FpOk X pins H a) (hn : X.s_0.heap.objs.size ≤ a) (ok : φ s.heap) (he : ∃ o, s.heap.get? a = some o) (st : ∀ h1 h2 : Heap, φ h1 → (∀ o, h1.get? a = some o → h2.get? a = some o) → φ h2) :
    Inv X pins σ (upd H a (.ext φ)) s := by
  obtain ⟨f0, f1, f2, f3, f4, f5⟩ := f
  have other : ∀ b u, H b = some u → upd H a (.ext φ) b = some u := fun b u e => by
    rw [upd_ne (ne_of_none e f0)]
    exact e
  have hok : HOk X.prog X.w (upd H a (.ext φ)) s.heap := fun b u e => by
    by_cases hb : b = a
    · subst hb
      rw [upd_same] at e
      cases e
      exact ⟨ok, he, st⟩
    · rw [upd_ne hb] at e
      exact (I.hok b u e).stay (fun _ _ _ z => z) (fun c z => other c _ z) fun c xs z => other c _ z
  refine ⟨I.ok, I.os, I.bare, ⟨I.base.keep, I.base.slot, fun b o e n hx => ?_, I.base.there, fun b xs e => other b _ (I.base.tups b xs e), fun b o u e => other b _ (I.base.frzs b o u e), fun b ps e => ?_⟩, I.loc, I.cell, ?_, fun x c e => ?_, fun p hp => ?_, hok, I.len⟩
  · rw [upd_ne (Nat.ne_of_lt (Nat.lt_of_lt_of_le (Heap.lt_size e) hn))]
    exact I.base.free b o e n hx
  · obtain ⟨m, q⟩ := I.base.tbls b ps e
    exact ⟨m, other b _ q⟩
  · rw [upd_ne (Ne.symm f1)]
    exact I.free
  · rw [upd_ne (f4 x c e)]
    exact I.freeC x c e
  · obtain ⟨e, n, r⟩ := I.pin p hp
    exact ⟨e, by rw [upd_ne (f5 p hp)]; exact n, r⟩
end
/-- the five parts of a zip of the tuples at a and b, laid over H1 -/
def ZipV (n : Nat) (z a b : Addr) (H1 H : Hp) : Prop := ∃ TI TO i1 i2 : Addr, ZipApart z TI TO i1 i2 a b ∧ i1 ≠ i2 ∧ (n ≤ z ∧ n ≤ TI ∧ n ≤ TO ∧ n ≤ i1 ∧ n ≤ i2) ∧ (H1 z = none ∧ H1 TI = none ∧ H1 TO = none ∧ H1 i1 = none ∧ H1 i2 = none) ∧
  H = upd (upd (upd (upd (upd H1 z (.ext fun h => IsZip h z TI TO .none)) TI (.ext fun h => IsPair h TI (.ref i1) (.ref i2))) TO (.ext fun h => IsPair h TO .none .none)) i1 (.ext fun h => h.IsTupleIter i1 a 0)) i2 (.ext fun h => h.IsTupleIter i2 b 0)
def tZipV (K : PySem.W.Frag) (n : Nat) (ta : TA) : TE := fun σ H Q => ta σ H fun vs H1 => ∃ a b xs ys, vs = [.ref a, .ref b] ∧ SqT K H1 a xs ∧ SqT K H1 b ys ∧ ∀ z H2, ZipV n z a b H1 H2 → Q (.ref z) H2
section
variable {X : Cx}
theorem pe_zipV {e e2 : Expr} {ta : TA} {p pos : Pos} (hg : Gl X "zip") (hm : X.mg "zip" = none) (ha : PA X [e, e2] ta)
    (hs : starEach [e, e2] X.env = (false, eval e X.env) :: starEach [e2] X.env := by rfl) (hpl : (backTo pos (starEach [e2] X.env)).any (·.1) = false := by rfl) :
    PE X (.Call (.Name "zip" p) [e, e2] [] pos) (tZipV X.K X.s_0.heap.objs.size ta) := by
  refine ⟨fun pins s σ H Q I h => ?_⟩
  refine Call_ (ld_blt I hg hm PyProof.Rows.boot_zip (PyProof.Rows.callWith_type1 (thn (ha.run pos pins s σ H _ I h) fun us s1 ⟨vs, H1, I1, r1, q1⟩ => ?_) hs hpl))
  obtain ⟨a, b, xs, ys, ex, hqx, hqy, q⟩ := q1
  subst ex
  cases r1 with
  | cons r rr =>
    cases rr with
    | cons r' rr =>
      cases rr
      cases r
      cases r'
      obtain ⟨its, rv, p1, _⟩ := I1.tuple hqx
      obtain ⟨its2, rv2, p2, _⟩ := I1.tuple hqy
      obtain ⟨o1, ho1, _⟩ := id p1
      obtain ⟨o2, ho2, _⟩ := id p2
      refine RZ.call_zipT (show s1.heap.IsTuple a its.toArray from p1) (show s1.heap.IsTuple b its2.toArray from p2) fun h' hz hTI hTO h1 h2 hsz hk => ?_
      have I2 : Inv X pins σ H1 { s1 with heap := h' } := I1.kept (t' := s1.toks) hk
      have D := PySem.W.ktu_apart s1.heap.objs.size a b (Heap.lt_size ho1) (Heap.lt_size ho2)
      have old : ∀ j, s1.heap.objs.size ≤ j → X.s_0.heap.objs.size ≤ j := fun j hj => Nat.le_trans I1.sz hj
      have fp : ∀ j, s1.heap.objs.size ≤ j → FpOk X pins H1 j := fun j hj => I1.fpOk hj (I1.hok.fresh hj)
      have mv : ∀ {G : Hp} {j : Addr}, FpOk X pins H1 j → G j = none → FpOk X pins G j := fun f g => ⟨g, f.2⟩
      have J1 := inv_track (φ := fun h => IsZip h (s1.heap.objs.size + 4) (s1.heap.objs.size + 2) (s1.heap.objs.size + 3) .none) I2 (fp (s1.heap.objs.size + 4) (by omega)) (old _ (by omega)) hz ⟨_, hz⟩ fun _ _ q k => k _ q
      have J2 := inv_track (φ := fun h => IsPair h (s1.heap.objs.size + 2) (.ref s1.heap.objs.size) (.ref (s1.heap.objs.size + 1))) J1 (a := s1.heap.objs.size + 2) (mv (fp _ (by omega)) (by rw [upd_ne D.TIz]; exact (fp _ (by omega)).1)) (old _ (by omega)) hTI ⟨_, hTI⟩ fun _ _ q k => k _ q
      have J3 := inv_track (φ := fun h => IsPair h (s1.heap.objs.size + 3) .none .none) J2 (a := s1.heap.objs.size + 3) (mv (fp _ (by omega)) (by rw [upd_ne (Ne.symm D.TITO), upd_ne D.TOz]; exact (fp _ (by omega)).1)) (old _ (by omega)) hTO ⟨_, hTO⟩ fun _ _ q k => k _ q
      have J4 := inv_track (φ := fun h => h.IsTupleIter s1.heap.objs.size a 0) J3 (a := s1.heap.objs.size) (mv (fp _ (Nat.le_refl _)) (by rw [upd_ne (Ne.symm D.TOi1), upd_ne (Ne.symm D.TIi1), upd_ne D.i1z]; exact (fp _ (Nat.le_refl _)).1)) (old _ (by omega)) h1 (let ⟨o, ho, _⟩ := h1; ⟨o, ho⟩) fun _ _ q k => q.at k
      have J5 := inv_track (φ := fun h => h.IsTupleIter (s1.heap.objs.size + 1) b 0) J4 (a := s1.heap.objs.size + 1) (mv (fp _ (by omega)) (by rw [upd_ne (Nat.succ_ne_self _), upd_ne (Ne.symm D.TOi2), upd_ne (Ne.symm D.TIi2), upd_ne D.i2z]; exact (fp _ (by omega)).1)) (old _ (by omega)) h2 (let ⟨o, ho, _⟩ := h2; ⟨o, ho⟩) fun _ _ q k => q.at k
      refine ⟨.ref _, _, J5, rfl, q _ _ ⟨_, _, _, _, D, Ne.symm (Nat.succ_ne_self _), ⟨old _ (by omega), old _ (by omega), old _ (by omega), old _ (by omega), old _ (by omega)⟩, ⟨(fp _ (by omega)).1, (fp _ (by omega)).1, (fp _ (by omega)).1, (fp _ (by omega)).1, (fp _ (by omega)).1⟩, rfl⟩⟩
/-- behind it the zip's parts are forgotten -/
def iZipV (K : PySem.W.Frag) (n k : Nat) : TI := fun σ H R => ∃ (z a b : Addr) (H1 : Hp), σ[k]? = some (some (.ref z)) ∧ ZipV n z a b H1 H ∧ R (RZ.ItzT K a b) H1
theorem pi_zipV {elts : List Expr} {kk k : Nat} {tpos p : Pos} {x : Str} (hN : X.N[k]? = some x) (hv : Vis X.env.scope x) (hd : (x == ("__debug__" : Str)) = false := by decide) (hcd : (x == ("__classdict__" : Str)) = false := by decide) :
    PI X (.Tuple elts kk tpos) (.Name x p) (iZipV X.K X.s_0.heap.objs.size k) := by
  refine ⟨fun pins s σ H R I h => ?_⟩
  obtain ⟨z, a, b, H0, hs, ⟨TI, TO, i1, i2, D, hi12, ⟨n1, n2, n3, n4, n5⟩, ⟨f1, f2, f3, f4, f5⟩, eH⟩, q⟩ := h
  refine thn ((pe_var (pos := p) (i := k) hN hv hd hcd).run pins s σ H (fun v H1 => v = .ref z ∧ H1 = H) I ⟨.ref z, hs, rfl, rfl⟩) fun u s1 ⟨v, H1, I1, r1, ev, eH1⟩ => ?_
  subst ev
  rw [eH1] at I1
  cases r1
  have z5 : H i2 = some (.ext fun h => h.IsTupleIter i2 b 0) := by rw [eH, upd_same]
  have z4 : H i1 = some (.ext fun h => h.IsTupleIter i1 a 0) := by rw [eH, upd_ne hi12, upd_same]
  have z3 : H TO = some (.ext fun h => IsPair h TO .none .none) := by rw [eH, upd_ne D.TOi2, upd_ne D.TOi1, upd_same]
  have z2 : H TI = some (.ext fun h => IsPair h TI (.ref i1) (.ref i2)) := by rw [eH, upd_ne D.TIi2, upd_ne D.TIi1, upd_ne D.TITO, upd_same]
  have z1 : H z = some (.ext fun h => IsZip h z TI TO .none) := by rw [eH, upd_ne (Ne.symm D.i2z), upd_ne (Ne.symm D.i1z), upd_ne (Ne.symm D.TOz), upd_ne (Ne.symm D.TIz), upd_same]
  have g1 := (I1.hok _ _ z1).1
  have g2 := (I1.hok _ _ z2).1
  have g3 := (I1.hok _ _ z3).1
  have g4 := (I1.hok _ _ z4).1
  have g5 := (I1.hok _ _ z5).1
  have m1 := (ItX.inv_fp I1 z1 n1).2
  have m2 := (ItX.inv_fp I1 z2 n2).2
  have m3 := (ItX.inv_fp I1 z3 n3).2
  have m4 := (ItX.inv_fp I1 z4 n4).2
  have m5 := (ItX.inv_fp I1 z5 n5).2
  have J5 := ItX.inv_drop I1 z5
  rw [eH, ItX.dropH_upd (by rw [upd_ne (Ne.symm hi12), upd_ne (Ne.symm D.TOi2), upd_ne (Ne.symm D.TIi2), upd_ne D.i2z]; exact f5)] at J5
  have J4 := ItX.inv_drop J5 upd_same
  rw [ItX.dropH_upd (by rw [upd_ne (Ne.symm D.TOi1), upd_ne (Ne.symm D.TIi1), upd_ne D.i1z]; exact f4)] at J4
  have J3 := ItX.inv_drop J4 upd_same
  rw [ItX.dropH_upd (by rw [upd_ne (Ne.symm D.TITO), upd_ne D.TOz]; exact f3)] at J3
  have J2 := ItX.inv_drop J3 upd_same
  rw [ItX.dropH_upd (by rw [upd_ne D.TIz]; exact f2)] at J2
  have J1 := ItX.inv_drop J2 upd_same
  rw [ItX.dropH_upd f1] at J1
  refine wpAny_pyIter_zip g1 ?_
  refine ⟨z, [z, TI, TO, i1, i2], _, _, H0, rfl, J1, RZ.turn_zipT D, ⟨g1, g2, ⟨_, _, g3⟩, g4, g5⟩, fun c hc => ?_, q⟩
  have e' : c = z ∨ c = TI ∨ c = TO ∨ c = i1 ∨ c = i2 := by simpa using hc
  rcases e' with e | e | e | e | e
  · subst e; exact ⟨f1, m1⟩
  · subst e; exact ⟨f2, m2⟩
  · subst e; exact ⟨f3, m3⟩
  · subst e; exact ⟨f4, m4⟩
  · subst e; exact ⟨f5, m5⟩
end
end SR

namespace SR
open PySem PySem.Spec PyProof.Rows L2
open PySem (Sem)
/-! ### {t: v}, t a tuple -/
def tDispT (tk tv : TE) : TE := fun σ H Q => ∀ p, H p = none → tk σ (upd H p (.dT [])) fun x H1 => tv σ H1 fun y H2 => H2 p = some (.dT []) ∧ ∃ b ks, x = .ref b ∧ H2 b = some (.tup (ks.map kV)) ∧ Q (.ref p) (upd H2 p (.dT [(ks, y)]))
theorem pe_dispT {X : Cx} {pos : Pos} {k v : Expr} {tk tv : TE} (hu : X.A.units < cLine) (hk : PE X k tk) (hv : PE X v tv) : PE X (.Dict [some k] [v] pos) (tDispT tk tv) := by
  refine ⟨fun pins s σ H Q I q => ?_⟩
  have hn := I.hok.fresh (Nat.le_refl s.heap.objs.size)
  have I1 := I.laid (a := s.heap.objs.size) (o := .dT []) (h' := s.heap.push { cls := .type "dict", data := .dict #[] }) (t' := s.toks) (fun _ _ q => Heap.get?_push_of_some _ q) (Nat.le_refl _) (dt_empty s.heap I.big)
  have hshape := zip_pairTrees [some k] [v] X.env pos rfl rfl
  rw [arm_eval_Dict, hshape, dictDisplay_pairs (pairTrees [some k] [v] X.env pos) (by intro e; cases e) (by show 1 < _; decide)]
  refine wpAny_bind (wpAny_standAt (wpAny_bind (wpAny_subDictH (knd := tupleKind (mixKind X.prog X.w)) (Q := fun d s' => wpAny (model X.prog X.w) X.A (pure (Value.ref d)) (EP X pins σ Q) X.xe s') hu (by show 1 ≤ 15; decide) ?_)))
  refine pairTrees_cons_walk (thn (hk.run pins _ σ _ _ I1 (q _ hn)) fun u s1 ⟨x, H1, I2, rx, q1⟩ => thn (hv.run pins s1 σ H1 _ I2 q1) fun w2 s2 ⟨y, H2, I3, ry, e, b, ks, ex, eb, q2⟩ => pairTrees_nil_walk ?_)
  subst ex
  cases (show u = Value.ref b from rx)
  obtain ⟨z, hd, xs, rel, dd⟩ := dt_of I3.hok e
  cases rel
  refine ⟨[(ks, b, w2)], ⟨rfl, rfl, key_of I3.hok eb, trivial⟩, dd, fun h' tk dd' hs => wpAny_pure ?_⟩
  have dd2 : h'.DictOfH (tupleKind (mixKind X.prog X.w)) s.heap.objs.size [(ks, b, w2)] := dd'
  obtain ⟨o, es, ep, ho, h2, h3, h4, _, h5⟩ := dd2
  have new : ObjOk X.prog X.w (upd H2 s.heap.objs.size (.dT [(ks, y)])) h' s.heap.objs.size (.dT [(ks, y)]) := by
    refine ⟨by show 1 ≤ sizeLine; rw [sizeLine_eq]; omega, hd, [(ks, b, w2)], .cons ⟨rfl, ?_, ry⟩ .nil, o, es, ep, ho, h2, h3, h4, h5⟩
    show upd H2 s.heap.objs.size _ b = _
    rw [upd_ne (ne_of eb e (fun z => nomatch z))]
    exact eb
  exact ⟨.ref s.heap.objs.size, _, d_write I3 (by rw [e]; exact True.intro) hs ⟨o, ho⟩ new, rfl, q2⟩

/-! ### a dict whose keys are (int, tuple of ints), its values truth values -/
abbrev SKey := Int × List Int
def keyN (k : SKey) : NestedKey := .tup [.num k.1, .tup (k.2.map .num)]
theorem map_num_inj : ∀ {a b : List Int}, a.map NestedKey.num = b.map NestedKey.num → a = b
  | [], [], _ => rfl
  | x :: xs, y :: ys, h => by
    simp only [List.map_cons, List.cons.injEq, NestedKey.num.injEq] at h
    rw [h.1, map_num_inj h.2]
  | [], _ :: _, h => by simp at h
  | _ :: _, [], h => by simp at h
theorem keyN_inj {k l : SKey} (h : keyN k = keyN l) : k = l := by
  unfold keyN at h
  simp only [NestedKey.tup.injEq, List.cons.injEq, NestedKey.num.injEq, and_true] at h
  obtain ⟨k1, k2⟩ := k
  obtain ⟨l1, l2⟩ := l
  simp only at h
  rw [h.1, map_num_inj h.2]
abbrev SEnt := SKey × Addr × Bool
def xsOf (L : List SEnt) : List (NestedKey × Addr × Value) := L.map fun e => (keyN e.1, e.2.1, Value.bool e.2.2)
def SeenO (P : Program) (w : World) (a : Addr) (L : List SEnt) : HO := .ext fun h => ∃ o es ep, h.get? a = some o ∧ o.ExactDict ∧ o.data = .dict es ep ∧ es.toList = (xsOf L).map (entryOfKey (nestedKind P w))
def KeyIn (H : Hp) (k : SKey) (b : Addr) : Prop := ∃ q, H b = some (.tup [.int k.1, .ref q]) ∧ H q = some (.tup (k.2.map V.int))
structure SeenAt (P : Program) (w : World) (H : Hp) (a : Addr) (L : List SEnt) : Prop where
  at_ : H a = some (SeenO P w a L)
  big : (a == sysModules) = false
  nd : (L.map (·.1)).Nodup
  keys : ∀ e ∈ L, KeyIn H e.1 e.2.1
def look (L : List SEnt) (k : SKey) : Option Bool := (L.find? fun e => decide (e.1 = k)).map (·.2.2)
theorem atKey_look : ∀ (L : List SEnt) (k : SKey), (atKey (xsOf L) (keyN k)).map (·.2) = (look L k).map Value.bool
  | [], _ => rfl
  | e :: L, k => by
    have ih := atKey_look L k
    unfold atKey xsOf look at ih ⊢
    simp only [List.map_cons, List.find?_cons]
    by_cases h : e.1 = k
    · rw [decide_eq_true (show keyN e.1 = keyN k by rw [h]), decide_eq_true h]
      rfl
    · rw [decide_eq_false (show ¬ keyN e.1 = keyN k from fun q => h (keyN_inj q)), decide_eq_false h]
      exact ih
theorem look_mem {L : List SEnt} {k : SKey} {b : Bool} (h : look L k = some b) : ∃ e ∈ L, e.1 = k ∧ e.2.2 = b := by
  unfold look at h
  obtain ⟨e, he, hb⟩ := Option.map_eq_some_iff.mp h
  exact ⟨e, List.mem_of_find?_eq_some he, by simpa using List.find?_some he, hb⟩
theorem num_depth : ∀ l : List Int, NestedKey.depthAll (l.map NestedKey.num) = 0
  | [] => rfl
  | x :: xs => by
    simp only [List.map_cons, NestedKey.depthAll, NestedKey.depth, num_depth xs]
    rfl
theorem nestedAll_ints {h : Heap} : ∀ {ns : List Int} {us : List Value}, Vals (ns.map V.int) us → NestedAll h (ns.map NestedKey.num) us
  | [], _, .nil => .nil
  | n :: ns, _, .cons r t => by
    obtain ⟨k, rfl⟩ := r
    exact .cons (.int n k) (nestedAll_ints t)
section
variable {X : Cx} {pins : List (Addr × Obj)} {σ : L2.St} {H : Hp} {s : Shared} {a b : Addr} {L : List SEnt} {k : SKey}
theorem keyIn_is (I : Inv X pins σ H s) (hk : KeyIn H k b) : (nestedKind X.prog X.w).is s.heap (keyN k) b := by
  obtain ⟨q, h1, h2⟩ := hk
  obtain ⟨its, rv, ⟨o, ho, hc, n, hd⟩, _⟩ := I.tuple (SqT.of (K := X.K) h1)
  obtain ⟨its2, rv2, ⟨o2, ho2, hc2, n2, hd2⟩, _⟩ := I.tuple (SqT.of (K := X.K) h2)
  refine ⟨.tup ho hc hd ?_, ?_⟩
  · cases rv with
    | cons r1 t1 =>
      cases t1 with
      | cons r2 t2 =>
        cases t2
        obtain ⟨tk, rfl⟩ := r1
        cases r2
        exact .cons (.int _ _) (.cons (.tup ho2 hc2 hd2 (by simpa using nestedAll_ints rv2)) .nil)
  · unfold keyN
    simp only [NestedKey.depth, NestedKey.depthAll, num_depth]
    decide
theorem seen_dict (I : Inv X pins σ H s) (S : SeenAt X.prog X.w H a L) : s.heap.DictOfH (nestedKind X.prog X.w) a (xsOf L) := by
  obtain ⟨o, es, ep, h1, h2, h3, h4⟩ := (I.hok a _ S.at_).1
  refine ⟨o, es, ep, h1, h2, h3, h4, fun x hx => ?_, ?_⟩
  · obtain ⟨e, he, q⟩ := List.mem_map.mp hx
    subst q
    exact keyIn_is I (S.keys e he)
  · have e : (xsOf L).map (·.1) = (L.map (·.1)).map keyN := by
      unfold xsOf
      rw [List.map_map, List.map_map]
      rfl
    rw [e]
    exact List.pairwise_map.mpr (S.nd.imp fun h q => h (keyN_inj q))
end
theorem SeenAt.keep {P : Program} {w : World} {H H' : Hp} {a : Addr} {L : List SEnt} (S : SeenAt P w H a L) (h : ∀ b o, H b = some o → H' b = some o) : SeenAt P w H' a L :=
  ⟨h _ _ S.at_, S.big, S.nd, fun e he => let ⟨q, h1, h2⟩ := S.keys e he; ⟨q, h _ _ h1, h _ _ h2⟩⟩
def rInSeen (P : Program) (w : World) : R2 := fun x y H Q => ∃ a b k L, x = .ref b ∧ y = .ref a ∧ KeyIn H k b ∧ SeenAt P w H a L ∧ Q (.bl (look L k).isSome) H
section
variable {X : Cx}
theorem nested_room {n : Nat} (hr : Room n X.A) : (nestedKind X.prog X.w).room X.A.in1 := by
  have := hr.units
  show X.A.units + 1 + 8 < cLine
  omega
theorem op_inSeen {n : Nat} (hr : Room n X.A) : OpR X (compareOp .In) (rInSeen X.prog X.w) := by
  intro pins s σ H x y v u Q I rx ry h
  obtain ⟨a, b, k, L, rfl, rfl, hk, S, q⟩ := h
  cases (show v = Value.ref b from rx)
  cases (show u = Value.ref a from ry)
  refine wpAny_in_heap (nested_room hr) (keyIn_is I hk) S.big (seen_dict I S) ?_
  have e : (atKey (xsOf L) (keyN k)).isSome = (look L k).isSome := by
    have := congrArg Option.isSome (atKey_look L k)
    simpa using this
  rw [e]
  exact ⟨.bl _, H, I.tok _, rfl, q⟩
def tSeenGet (P : Program) (w : World) (td ty : TE) : TE := fun σ H Q => td σ H fun x H1 => ty σ H1 fun y H2 => ∃ a b k L r, x = .ref a ∧ y = .ref b ∧ KeyIn H2 k b ∧ SeenAt P w H2 a L ∧ look L k = some r ∧ Q (.bl r) H2
theorem pe_seenGet {n : Nat} {o i : Expr} {pos : Pos} {td ty : TE} (hr : Room n X.A) (ho : PE X o td) (hi : PE X i ty) (hs : NoSl i) : PE X (.Subscript o i pos) (tSeenGet X.prog X.w td ty) := by
  refine ⟨fun pins s σ H Q I h => ?_⟩
  refine subD_of PySem.F.slot_dict_getitem.lookup hs (thn (ho.run pins s σ H _ I h) fun u s1 ⟨x, H1, I1, rx, q1⟩ => thn (hi.run pins s1 σ H1 _ I1 q1) fun iv s2 ⟨y, H2, I2, ry, a, b, k, L, r, ex, ey, hk, S, hl, q2⟩ => ?_)
  subst ex ey
  obtain rfl : u = Value.ref a := rx
  obtain rfl : iv = Value.ref b := ry
  have D := seen_dict I2 S
  refine ⟨D.typeIs, ?_⟩
  have e := atKey_look L k
  rw [hl] at e
  obtain ⟨p, hp, hp2⟩ := Option.map_eq_some_iff.mp e
  refine wpAny_getItem_heap (nested_room hr) (keyIn_is I2 hk) D hp ?_
  rw [hp2]
  exact ⟨.bl r, H2, I2.tok _, rfl, q2⟩
/-- d[k] = truth -/
def sSeenPut (P : Program) (w : World) (td ty tv : TE) : TS := fun D σ H => tv σ H fun v H1 => td σ H1 fun x H2 => ty σ H2 fun y H3 => ∃ a b k L r, x = .ref a ∧ y = .ref b ∧ v = .bl r ∧ KeyIn H3 k b ∧ SeenAt P w H3 a L ∧ L.length ≤ sizeLine ∧
  ∀ L', SeenAt P w (upd H3 a (SeenO P w a L')) a L' → (∀ e ∈ L', (e.1 = k ∧ e.2.2 = r) ∨ ∃ e' ∈ L, e.1 = e'.1 ∧ e.2.2 = e'.2.2) → D.nx σ (upd H3 a (SeenO P w a L'))
theorem ps_seenPut {n : Nat} {o i value : Expr} {pos pos' : Pos} {td ty tv : TE} (hr : Room n X.A) (ho : PE X o td) (hi : PE X i ty) (hv : PE X value tv) (hs : swapsWith value (some (.Subscript o i pos')) pos.line X.env = pure false) :
    PS X (.Assign [.Subscript o i pos'] value pos) (sSeenPut X.prog X.w td ty tv) := by
  refine ⟨fun pins s σ H D I h => ?_⟩
  refine wpAny_Assign_Subscript (thn (hv.run pins s σ H _ I h) fun r s1 ⟨v, H1, I1, rv, q1⟩ => thn (ho.run pins s1 σ H1 _ I1 q1) fun u s2 ⟨x, H2, I2, rx, q2⟩ => thn (hi.run pins s2 σ H2 _ I2 q2) fun iv s3 ⟨y, H3, I3, ry, a, b, k, L, t, ex, ey, ev, hk, S, hz, q3⟩ => ?_) hs
  subst ex ey ev
  obtain rfl : u = Value.ref a := rx
  obtain rfl : iv = Value.ref b := ry
  obtain rfl : r = Value.bool t := rv
  refine wpAny_setItem_heap (hsz := by unfold xsOf; rw [List.length_map]; exact hz) (nested_room hr) (keyIn_is I3 hk) (seen_dict I3 S) fun h' dd hs' => ?_
  have go : ∀ L' : List SEnt, xsOf L' = storedH (xsOf L) (keyN k) b (Value.bool t) → (L'.map (·.1)).Nodup → (∀ e ∈ L', KeyIn H3 e.1 e.2.1) → (∀ e ∈ L', (e.1 = k ∧ e.2.2 = t) ∨ ∃ e' ∈ L, e.1 = e'.1 ∧ e.2.2 = e'.2.2) →
      SP X pins D .next { s3 with heap := h', toks := s3.toks + (nestedKind X.prog X.w).draws (keyN k) } := fun L' e1 e2 e3 e4 => by
    rw [← e1] at dd
    obtain ⟨o, es, ep, h1, h2, h3, h4, _, _⟩ := dd
    have I4 : Inv X pins σ (upd H3 a (SeenO X.prog X.w a L')) { s3 with heap := h', toks := s3.toks + (nestedKind X.prog X.w).draws (keyN k) } :=
      d_write I3 (by rw [S.at_]; exact True.intro) hs' ⟨o, h1⟩ ⟨⟨o, es, ep, h1, h2, h3, h4⟩, ⟨o, h1⟩, fun g1 g2 ⟨o', es', ep', k1, k2, k3, k4⟩ kk => ⟨o', es', ep', kk _ k1, k2, k3, k4⟩⟩
    refine ⟨σ, _, I4, q3 L' ⟨upd_same, S.big, e2, fun e he => ?_⟩ e4⟩
    obtain ⟨q, g1, g2⟩ := e3 e he
    exact ⟨q, by rw [upd_ne (ne_of g1 S.at_ (fun z => nomatch z))]; exact g1, by rw [upd_ne (ne_of g2 S.at_ (fun z => nomatch z))]; exact g2⟩
  cases hat : atKey (xsOf L) (keyN k) with
  | none =>
    have hno : look L k = none := by
      have := atKey_look L k
      rw [hat] at this
      cases q : look L k with
      | none => rfl
      | some _ => rw [q] at this; cases this
    have hnm : k ∉ L.map (·.1) := fun hm => by
      obtain ⟨e, he, ek⟩ := List.mem_map.mp hm
      unfold look at hno
      rw [Option.map_eq_none_iff, List.find?_eq_none] at hno
      exact hno e he (decide_eq_true ek)
    refine go (L ++ [(k, b, t)]) ?_ ?_ ?_ ?_
    · rw [storedH_new hat]
      simp [xsOf]
    · rw [List.map_append]
      refine List.nodup_append.mpr ⟨S.nd, by simp, fun x hx y hy => ?_⟩
      simp at hy
      subst hy
      intro e
      subst e
      exact hnm hx
    · intro e he
      rcases List.mem_append.mp he with h | h
      · exact S.keys e h
      · rw [List.mem_singleton] at h
        subst h
        exact hk
    · intro e he
      rcases List.mem_append.mp he with h | h
      · exact .inr ⟨e, h, rfl, rfl⟩
      · rw [List.mem_singleton] at h
        subst h
        exact .inl ⟨rfl, rfl⟩
  | some p =>
    refine go (L.map fun e => if e.1 = k then (e.1, e.2.1, t) else e) ?_ ?_ ?_ ?_
    · rw [storedH_old hat]
      unfold xsOf
      rw [List.map_map, List.map_map]
      refine List.map_congr_left fun e _ => ?_
      show _ = putAt (keyN k) (Value.bool t) (keyN e.1, e.2.1, Value.bool e.2.2)
      unfold putAt
      by_cases h : e.1 = k
      · rw [if_pos (show keyN e.1 = keyN k by rw [h])]
        simp only [Function.comp, if_pos h]
      · rw [if_neg (show ¬ keyN e.1 = keyN k from fun q => h (keyN_inj q))]
        simp only [Function.comp, if_neg h]
    · have e : (L.map fun e => if e.1 = k then (e.1, e.2.1, t) else e).map (·.1) = L.map (·.1) := by
        rw [List.map_map]
        refine List.map_congr_left fun e _ => ?_
        simp only [Function.comp]
        split <;> rfl
      rw [e]
      exact S.nd
    · intro e he
      obtain ⟨e0, h0, q⟩ := List.mem_map.mp he
      have := S.keys e0 h0
      subst q
      split <;> exact this
    · intro e he
      obtain ⟨e0, h0, q⟩ := List.mem_map.mp he
      subst q
      by_cases h : e0.1 = k
      · rw [if_pos h]
        exact .inl ⟨h, rfl⟩
      · rw [if_neg h]
        exact .inr ⟨e0, h0, rfl, rfl⟩
def tDNewS (P : Program) (w : World) : TE := fun _ H Q => ∀ p, H p = none → SeenAt P w (upd H p (SeenO P w p [])) p [] → Q (.ref p) (upd H p (SeenO P w p []))
theorem pe_dnewS {pos : Pos} : PE X (.Dict [] [] pos) (tDNewS X.prog X.w) := ⟨fun pins s σ H Q I h => by
  refine wpAny_Dict_empty ⟨.ref s.heap.objs.size, _, I.laid (a := s.heap.objs.size) (o := SeenO X.prog X.w s.heap.objs.size []) (t' := s.toks) (fun _ _ q => Heap.get?_push_of_some _ q) (Nat.le_refl _) ?_, rfl, h _ (I.hok.fresh (Nat.le_refl _)) ⟨upd_same, ?_, List.nodup_nil, fun e he => by cases he⟩⟩
  · exact ⟨⟨_, #[], 0, Heap.get?_push_size _ rfl, ⟨rfl, rfl, rfl⟩, rfl, rfl⟩, ⟨_, Heap.get?_push_size _ rfl⟩, fun g1 g2 ⟨o', es', ep', k1, k2, k3, k4⟩ kk => ⟨o', es', ep', kk _ k1, k2, k3, k4⟩⟩
  · exact beq_eq_false_iff_ne.mpr (Ne.symm (Nat.ne_of_lt I.big))⟩
end
end SR

namespace SR
open PySem PySem.Spec PyProof.Rows L2
open PySem (Sem)
/-! ### repr -/
section
variable {X : Cx}
def rReprB : List V → Hp → VK → Prop := fun xs H Q => ∃ b : Bool, xs = [.bl b] ∧ Q (.str (if b then "True" else "False")) H
theorem cr_reprB : CallR X (.builtin "repr") rReprB := by
  intro pins s σ H vs us Q I r h
  obtain ⟨b, rfl, q⟩ := h
  obtain ⟨u, rfl, ru⟩ := vals1 r
  cases (show u = Value.bool b from ru)
  exact PySem.P.repr_of_bool ⟨.str _, H, I.tok _, ⟨_, rfl⟩, q⟩
/-- repr of a tuple of data, where no other repr is under way -/
def rReprD (K : PySem.W.Frag) : List V → Hp → VK → Prop := fun xs H Q => ∃ (a : Addr) (d : PyData), xs = [.ref a] ∧ Dp K H (.ref a) d ∧ d.showable = true ∧ d.hasDict = false ∧ d.depth ≤ 40 ∧ d.shown.length ≤ sizeLine ∧ Q (.str d.shown) H
theorem cr_reprD {n : Nat} (hr : Room n X.A) (hg : X.A.guards = some []) : CallR X (.builtin "repr") (rReprD X.K) := by
  intro pins s σ H vs us Q I r h
  obtain ⟨a, d, rfl, hd, h1, h2, h3, h4, q⟩ := h
  obtain ⟨u, rfl, ru⟩ := vals1 r
  cases (show u = Value.ref a from ru)
  obtain ⟨as, rd⟩ := Dp.reads I d _ _ hd rfl
  refine repr_of_reads' rd h1 (fun e => by rw [h2] at e; cases e) hg (by have := hr.units; omega) (fun b o e => e) (fun h' u tk hk => ?_) h4
  exact ⟨.str d.shown, H, I.kept hk, ⟨u, rfl⟩, q⟩
end

/-! ### a def that runs where no repr is under way -/
structure FnG (P : Program) (w : World) (K : PySem.W.Frag) (mg : Str → Option Value) (base : Heap) (k : Nat) (f : Addr) (fd : FuncData) (ps : List Str) (sp : Sp) : Prop where
  len : ∀ vs H Q E, sp vs H Q E → vs.length = ps.length
  run : ∀ (A : Around) (outer : List Env) (s : Shared) (H : Hp) (args : Args) (us : List Value) (vs : List V) (Q : VK) (E : XK), A.guards = some [] → Room k A → Env0 P w K mg base A outer s H → BindsTo s fd args (ps.zip us) → Vals vs us → sp vs H Q E →
    codeAny (model P w) A (.call (.ref f) args) (CR CX0 outer P w H s Q E) s
/-- by its body, as Fun.ok -/
theorem fnG_of {P : Program} {w : World} {K : PySem.W.Frag} {mg : Str → Option Value} {base : Heap} {x qual : Str} {st : Stmt} {f : Addr} {fd : FuncData} {N ps : List Str} {k : Nat} {sp : Sp} (F : Fun K x qual st f fd) (S : FnScope N ps (defScope st)) (len : ∀ vs H Q E, sp vs H Q E → vs.length = ps.length)
    (hbody : ∀ (cdv : Value) (A : Around) (outer : List Env) (s : Shared) (H : Hp) (vs : List V) (Q : VK) (E : XK), A.guards = some [] → Room k (A.deeper (envOfC qual (defScope st) s.heap.objs.size f cdv)) → sp vs H Q E →
      ∃ t, PSs (cxOf CX0 P w K mg base N qual (defScope st) f cdv A outer s H E).nox (defBody st) t ∧ t { nx := fun _ H' => Q .non H', rt := Q } (start N vs) H) : FnG P w K mg base (k + 1) f fd ps sp := by
  obtain ⟨oc, od, kV, doc, pm, an, cdv, ct, osl, rfl, lk, hcd⟩ := F.ex
  constructor
  · exact len
  intro A outer s H args us vs Q E hg hr e0 hb r hsp
  obtain ⟨t, ht0, hq⟩ := hbody cdv A outer s H vs Q E hg (hr.deeper _) hsp
  have ht := ht0.nox
  have KX : K.In s.heap := e0.mod.kin.keeps fun b o e => (e0.bs b o e).1
  have par : ∀ y ∈ ps.zip us, (defScope st).names.lookup y.1 = some .local ∨ ((defScope st).names.lookup y.1 = some .cell ∧ ((cellsFrom (s.heap.objs.size + 1) (defScope st).names []).lookup y.1).isSome = true) := by
    rintro ⟨n, v⟩ hy
    exact (S.par n (List.of_mem_zip hy).1).imp id fun q => ⟨q, PySem.W.cellsFrom_some _ _ _ (.inl q)⟩
  refine codeAny_call_function hr.depth (KX _ _ lk) rfl S.co S.gen rfl (PySem.W.codeRec_of KX hcd) (hb _ _ _ _ (wpAny_newFunctionEnv_cells S.kind par fun env he s1 x => ?_))
  cases he
  refine ⟨(e0.mod.nolimit.keeps fun b o e => (e0.bs b o e).1).keeps x.toInCall.keep, codeAny_func ?_⟩
  have I := inv_start (CX := CX0) (E := E) S hr.hd e0 (len _ _ _ _ hsp) r x
  have fin : ∀ (σ' : L2.St) (H' : Hp) (v : V) (u : Value) (s' : Shared), Inv (cxOf CX0 P w K mg base N qual (defScope st) f cdv A outer s H E) [] σ' H' s' → RelV v u → Q v H' → CE outer P w H s Q u s' := fun σ' H' v u s' J rv q => ⟨v, H', J.os, J.bare, J.base, J.hok, rv, q⟩
  refine wpAny_mono (ht.run [] s1 (start N vs) H _ I hq) (fun fl s' hs => ?_) fun e s' hs => hs
  match fl, hs with
  | .ret u, ⟨v, σ', H', J, rv, q⟩ => exact fin σ' H' v u s' J rv q
  | .next, ⟨σ', H', J, q⟩ => exact fin σ' H' V.non Value.none s' J rfl q
  | .brk, ⟨_, _, _, q⟩ => exact q.elim
  | .cont, ⟨_, _, _, q⟩ => exact q.elim
section
variable {X : Cx} {k : Nat} {f : Addr} {fd : FuncData} {ps : List Str} {sp : Sp} {x : Str} {p pos : Pos} {e : Expr} {es : List Expr} {t : TA}
theorem pe_callG (F : FnG X.prog X.w X.K X.mg X.base k f fd ps sp) (hgd : X.A.guards = some []) (hr : Room k X.A) (hg : Gl X x) (hm : X.mg x = some (.ref f)) (hk : PySem.W.keepIn X.K (.ref f) = true) (hb : Binds X.K fd ps [])
    (ha : PA X (e :: es) t) (hdb : (x == ("__debug__" : Str)) = false := by decide) (he : starEach (e :: es) X.env = (false, eval e X.env) :: starEach es X.env := by rfl) (hpl : (backTo pos (starEach es X.env)).any (·.1) = false := by rfl) :
    PE X (.Call (.Name x p) (e :: es) [] pos) (tCall sp [] E0 t) := by
  constructor
  intro pins s σ H Q I h
  refine wpAny_Call_Name_kw (ld_glob I hg hm ?_ hdb)
  refine PySem.W.callWith_K (h₀ := X.base) I.ok.mod.kin hk (thn (ha.run pos pins s σ H _ I h) fun us s1 ⟨vs, H1, I1, r, q⟩ => ⟨I1.kIn, ?_⟩) he hpl
  have q : sp vs H1 Q E0 := by
    have q1 : sp (vs ++ []) H1 Q E0 := q
    rw [List.append_nil] at q1
    exact q1
  have hl : (us ++ []).length = ps.length := by rw [List.append_nil, ← r.length]; exact F.len _ _ _ _ q
  have b := hb s1 us I1.kIn hl
  rw [List.append_nil] at b
  refine wpAny_call (codeAny_mono (F.run X.A X.stack s1 H1 ⟨us, []⟩ us vs Q E0 hgd hr I1.env0 b r q) fun r s' hq => ?_)
  match r, hq with
  | .ok (.ret u), hq => exact I1.after hq
  | .error e, hq => exact hq.elim
end

/-! ### the law's own call -/
section
variable {P : Program} {w : World} {K : PySem.W.Frag} {mg mb : Str → Option Value} {k : Nat} {fa a : Addr} {fd : FuncData} {x : Str} {sp : Sp} {s1 : Shared} {vs : List Value} {ns : List Int}
def Wanted (s1 : Shared) (r : Result) (s' : Shared) : Prop := r = .ok (.ret (.bool true)) ∧ OldK s1.heap s'.heap ∧ s'.os = s1.os ∧ AllBare s'.gens
/-- from an abstract heap that tracks nothing but the script -/
theorem law_core (KX : K.In s1.heap) (hns : s1.heap.Ns mainGlobals mg) (hb : s1.heap.Ns builtinsNs mb) (hbb : ∀ x : Str, x ≠ "__name__" → mb x = bootBuiltins x) (hlim : s1.heap.NoLimit) (hg : s1.gens = #[])
    (ha : s1.heap.get? a = some { cls := .type "list", data := .seq vs.toArray }) (hr : Room k callerA)
    (F : ∀ base : Heap, K.In base → base.Ns mainGlobals mg → FnG P w K mg base k fa fd [x] sp) (hbind : ∀ (s : Shared) (u : Value), BindsTo s fd ⟨[u], []⟩ [(x, u)])
    {H : Hp} (hsp : sp [.ref a] H (fun v _ => v = .bl true) fun _ _ _ => False) (hO : Only H) (hok : HOk P w H s1.heap) (hA : ∀ b, H b ≠ none → b = a) (hK : H a ≠ none → K.lookup a = none) :
    codeAny (model P w) callerA (.call (.ref fa) ⟨[.ref a], []⟩) (Wanted s1) s1 := by
  have un1 : ∀ {b : Addr}, b ≠ a → H b = none := fun {b} hb => by
    cases q : H b with
    | none => rfl
    | some u => exact absurd (hA b (by rw [q]; exact fun z => nomatch z)) hb
  have ns1 : ∀ {b : Addr} {m : Str → Option Value}, s1.heap.Ns b m → (hidT s1.heap H).Ns b m := by
    rintro b m ⟨o, es, ep, e, d, r⟩
    refine ⟨o, es, ep, hidT_get e (un1 ?_), d, r⟩
    rintro rfl
    rw [ha] at e
    cases e
    exact nomatch (show Data.seq vs.toArray _ = Data.dict es ep from d)
  have kb : K.In (hidT s1.heap H) := fun b o e => by
    refine hidT_get (KX b o e) ?_
    by_cases hba : b = a
    · subst hba
      cases q : H b with
      | none => rfl
      | some u =>
        rw [hK (by rw [q]; exact fun z => nomatch z)] at e
        cases e
    · exact un1 hba
  have md : Mod K mg (hidT s1.heap H) := ⟨kb, ns1 hns, ⟨mb, ns1 hb, hbb⟩, let ⟨mc, h1, h2⟩ := hlim; ⟨mc, ns1 h1, h2⟩⟩
  have e0 : Env0 P w K mg (hidT s1.heap H) callerA [] s1 H := ⟨rfl, md, fun b o e => of_hidT e, Nat.le_of_eq (hidT_size _ _), trivial, fun b hb => absurd (show b ∈ ([] : List Addr) from hb) List.not_mem_nil, hok, .of_eq hg⟩
  refine codeAny_mono ((F _ kb (ns1 hns)).run callerA [] s1 H _ [.ref a] [.ref a] _ _ rfl hr e0 (hbind s1 (.ref a)) (.cons rfl .nil) hsp) fun r s' h => ?_
  match r, h with
  | .error e, h => exact h.elim
  | .ok (.ret u), ⟨v, H', os, bare, un, hok', r', q⟩ =>
    have q' : v = .bl true := q
    subst q'
    obtain rfl : u = Value.bool true := r'
    refine ⟨rfl, OldK.of_keep fun b o e => ?_, os, bare⟩
    cases q : H b with
    | none => exact un.keep b o e q (fun z => nomatch z) (fun z => nomatch z)
    | some u =>
      rcases hO b with z | ⟨ob, xs, z⟩
      · exact absurd (q.symm.trans z) (fun z => nomatch z)
      · have e1 := (hok b _ z).1
        have e2 := (hok' b _ (un.frzs b ob _ z)).1
        rw [e1] at e
        cases e
        exact e2
theorem law_callG (KX : K.In s1.heap) (hns : s1.heap.Ns mainGlobals mg) (hb : s1.heap.Ns builtinsNs mb) (hbb : ∀ x : Str, x ≠ "__name__" → mb x = bootBuiltins x) (hlim : s1.heap.NoLimit) (hg : s1.gens = #[])
    (ha : s1.heap.get? a = some { cls := .type "list", data := .seq vs.toArray }) (hi : IntsAre vs ns) (hl : ns.length ≤ sizeLine) (hr : Room k callerA)
    (F : ∀ base : Heap, K.In base → base.Ns mainGlobals mg → FnG P w K mg base k fa fd [x] sp) (hbind : ∀ (s : Shared) (u : Value), BindsTo s fd ⟨[u], []⟩ [(x, u)])
    (hsp : ∀ H : Hp, Only H → SqL K H a (ns.map V.int) → sp [.ref a] H (fun v _ => v = .bl true) fun _ _ _ => False) :
    codeAny (model P w) callerA (.call (.ref fa) ⟨[.ref a], []⟩) (Wanted s1) s1 := by
  have rv := vals_ints hi
  cases hk : K.lookup a with
  | some o =>
    have e := ha.symm.trans (KX a o hk)
    cases e
    let H : Hp := fun _ => none
    have O : Only H := fun _ => .inl rfl
    have S : SqL K H a (ns.map V.int) := .inr ⟨_, vs.toArray, _, hk, rfl, rfl, rfl, by rw [List.size_toArray, hi.length]; exact hl, by simpa using rv⟩
    exact law_core KX hns hb hbb hlim hg ha hr F hbind (hsp H O S) O (fun b u z => nomatch (show (none : Option HO) = some u from z)) (fun b z => absurd rfl z) fun z => absurd rfl z
  | none =>
    let u : HO := .frz { cls := .type "list", data := .seq vs.toArray } (.lst (ns.map V.int))
    let H : Hp := upd (fun _ => none) a u
    have O : Only H := fun b => by
      by_cases hb : b = a
      · exact .inr ⟨_, _, by rw [hb]; exact upd_same⟩
      · exact .inl (upd_ne hb)
    have S : SqL K H a (ns.map V.int) := .inl (.inr ⟨_, upd_same⟩)
    have only : ∀ b o, H b = some o → b = a ∧ o = u := fun b o z => by
      by_cases hb : b = a
      · subst hb
        exact ⟨rfl, (Option.some.inj (upd_same.symm.trans z)).symm⟩
      · exact nomatch (show (none : Option HO) = some o from (upd_ne hb).symm.trans z)
    refine law_core KX hns hb hbb hlim hg ha hr F hbind (hsp H O S) O (fun b o z => ?_) (fun b z => ?_) fun _ => hk
    · obtain ⟨rfl, rfl⟩ := only b o z
      exact ⟨ha, by rw [List.length_map]; exact hl, vs, _, rv, ha⟩
    · cases q : H b with
      | none => exact absurd q z
      | some o => exact (only b o q).1
end
/-- the goal that the head leaves, for a law that runs where no repr is under way -/
theorem walk_ofG {l : PySem.W.OpenLaw} {n k : Nat} {q : Program} {loose : List Str} {XP : (Str → Option Value) → Heap → Prop} {YP : World → Heap → Prop} {d : DefRec} {K : Params → PySem.W.Frag} {sp : World → Sp} {x : Str}
    (hn : l.most = some n) (hn2 : n ≤ sizeLine) (hdf : d.params.defaults = []) (hr : Room k callerA) (hY : ∀ (w : World) (h : Heap), YP w h → (K w.params).In h)
    (F : ∀ (w : World) (mg : Str → Option Value) (fa : Addr) (h : Heap), (K w.params).In h → h.Ns mainGlobals mg → mg d.name = some (.ref fa) →
      ∃ fd : FuncData, (∀ (s : Shared) (u : Value), BindsTo s fd ⟨[u], []⟩ [(x, u)]) ∧
        ∀ base : Heap, (K w.params).In base → base.Ns mainGlobals mg → FnG l.prog w (K w.params) mg base k fa fd [x] (sp w))
    (hsp : ∀ (w : World) (H : Hp) (a : Addr) (ns : List Int), ns.length ≤ n → (∀ z ∈ ns, Builtin.Int.intBits z ≤ 1048576) → Only H → SqL (K w.params) H a (ns.map V.int) → sp w [.ref a] H (fun v _ => v = .bl true) fun _ _ _ => False) :
    PySem.W.WalkO q loose XP YP l.row.toRowW d [] (fun f vs => PySem.call f vs) := by
  refine Att.attach_callB hn hdf fun w s0 s1 mg mb fa o pm cd doc a vs ns G Y ho hd hcd hmg hobj hints hlen hbits hg => ?_
  have KX := hY w _ Y
  obtain ⟨fd, hb, hF⟩ := F w mg fa _ KX G.T.g hmg
  exact law_callG KX G.T.g G.T.b G.T.builtins G.T.nolimit hg hobj hints (Nat.le_trans hlen hn2) hr hF hb fun H hO hS => hsp w H a ns hlen hbits hO hS
end SR

namespace SR
open PySem PySem.Spec PyProof.Rows L2
/-! ### the text by its places -/
def topS (i : Nat) : Stmt := PySem.Challenge.pw_stairyard_k12_whole_least_rows_of_formul.main.body.getD i (.Pass ⟨0, 0, 0, 0⟩)
abbrev s_is_from : Stmt := topS 9
theorem c_is_from : FnScope ["value", "low", "high"] ["value", "low", "high"] (defScope s_is_from) := ⟨rfl, rfl, rfl, by decide +kernel, rfl, by decide +kernel, by decide +kernel⟩
abbrev s_need_units : Stmt := topS 10
theorem c_need_units : FnScope ["value", "ratio"] ["value"] (defScope s_need_units) := ⟨rfl, rfl, rfl, by decide +kernel, rfl, by decide +kernel, by decide +kernel⟩
abbrev s_is_row : Stmt := topS 13
theorem c_is_row : FnScope ["units", "value", "number"] ["units", "value"] (defScope s_is_row) := ⟨rfl, rfl, rfl, by decide +kernel, rfl, by decide +kernel, by decide +kernel⟩
abbrev s_need_row : Stmt := topS 14
theorem c_need_row : FnScope ["units", "value"] ["units", "value"] (defScope s_need_row) := ⟨rfl, rfl, rfl, by decide +kernel, rfl, by decide +kernel, by decide +kernel⟩
abbrev s_zeros_of : Stmt := topS 15
theorem c_zeros_of : FnScope ["units"] ["units"] (defScope s_zeros_of) := ⟨rfl, rfl, rfl, by decide +kernel, rfl, by decide +kernel, by decide +kernel⟩
abbrev s_added : Stmt := topS 16
theorem c_added : FnScope ["one", "other", "near", "far"] ["one", "other"] (defScope s_added) := ⟨rfl, rfl, rfl, by decide +kernel, rfl, by decide +kernel, by decide +kernel⟩
abbrev s_less : Stmt := topS 17
theorem c_less : FnScope ["one", "other", "near", "far"] ["one", "other"] (defScope s_less) := ⟨rfl, rfl, rfl, by decide +kernel, rfl, by decide +kernel, by decide +kernel⟩
abbrev s_stair_from : Stmt := topS 18
theorem c_stair_from : FnScope ["units", "row", "found", "ratio", "number"] ["units", "row"] (defScope s_stair_from) := ⟨rfl, rfl, rfl, by decide +kernel, rfl, by decide +kernel, by decide +kernel⟩
abbrev s_row_from : Stmt := topS 19
theorem c_row_from : FnScope ["units", "stair", "found", "index", "ratio"] ["units", "stair"] (defScope s_row_from) := ⟨rfl, rfl, rfl, by decide +kernel, rfl, by decide +kernel, by decide +kernel⟩
abbrev s_within : Stmt := topS 20
theorem c_within : FnScope ["units", "order", "stock"] ["units", "order", "stock"] (defScope s_within) := ⟨rfl, rfl, rfl, by decide +kernel, rfl, by decide +kernel, by decide +kernel⟩
abbrev s_higher_row : Stmt := topS 22
theorem c_higher_row : FnScope ["units", "one", "other", "pairs", "near", "far"] ["units", "one", "other"] (defScope s_higher_row) := ⟨rfl, rfl, rfl, by decide +kernel, rfl, by decide +kernel, by decide +kernel⟩
abbrev s_has_formula_shape : Stmt := topS 29
theorem c_has_formula_shape : FnScope ["units", "value"] ["units", "value"] (defScope s_has_formula_shape) := ⟨rfl, rfl, rfl, by decide +kernel, rfl, by decide +kernel, by decide +kernel⟩
abbrev s_formula_walked : Stmt := topS 30
theorem c_formula_walked : FnScope ["units", "value", "path", "met", "number", "index", "part"] ["units", "value", "path", "met"] (defScope s_formula_walked) := ⟨rfl, rfl, rfl, by decide +kernel, rfl, by decide +kernel, by decide +kernel⟩
abbrev s_need_formula : Stmt := topS 31
theorem c_need_formula : FnScope ["units", "value"] ["units", "value"] (defScope s_need_formula) := ⟨rfl, rfl, rfl, by decide +kernel, rfl, by decide +kernel, by decide +kernel⟩
abbrev s_least_kept : Stmt := topS 32
theorem c_least_kept : FnScope ["units", "rows", "kept", "stair", "row", "other"] ["units", "rows"] (defScope s_least_kept) := ⟨rfl, rfl, rfl, by decide +kernel, rfl, by decide +kernel, by decide +kernel⟩
abbrev s_two_put : Stmt := topS 33
theorem c_two_put : FnScope ["units", "word", "one", "other", "found", "near", "far"] ["units", "word", "one", "other"] (defScope s_two_put) := ⟨rfl, rfl, rfl, by decide +kernel, rfl, by decide +kernel, by decide +kernel⟩
abbrev s_formula_rows : Stmt := topS 34
theorem c_formula_rows : FnScope ["units", "formula", "lists", "found", "other", "part"] ["units", "formula"] (defScope s_formula_rows) := ⟨rfl, rfl, rfl, by decide +kernel, rfl, by decide +kernel, by decide +kernel⟩
abbrev s_formula_stocks : Stmt := topS 35
theorem c_formula_stocks : FnScope ["units", "formula"] ["units", "formula"] (defScope s_formula_stocks) := ⟨rfl, rfl, rfl, by decide +kernel, rfl, by decide +kernel, by decide +kernel⟩
abbrev s_is_enough : Stmt := topS 36
theorem c_is_enough : FnScope ["units", "rows", "stock", "row"] ["units", "rows", "stock"] (defScope s_is_enough) := ⟨rfl, rfl, rfl, by decide +kernel, rfl, by decide +kernel, by decide +kernel⟩
abbrev s_is_enough_for : Stmt := topS 37
theorem c_is_enough_for : FnScope ["units", "formula", "stock"] ["units", "formula", "stock"] (defScope s_is_enough_for) := ⟨rfl, rfl, rfl, by decide +kernel, rfl, by decide +kernel, by decide +kernel⟩
abbrev s_law_mixed : Stmt := topS 39
theorem c_law_mixed : FnScope ["_law_cell", "_law_k"] ["_law_cell", "_law_k"] (defScope s_law_mixed) := ⟨rfl, rfl, rfl, by decide +kernel, rfl, by decide +kernel, by decide +kernel⟩
abbrev s_law_begin : Stmt := topS 40
theorem c_law_begin : FnScope ["_law_script", "_law_cells_so", "_law_cell"] ["_law_script"] (defScope s_law_begin) := ⟨rfl, rfl, rfl, by decide +kernel, rfl, by decide +kernel, by decide +kernel⟩
abbrev s_law_draw : Stmt := topS 41
theorem c_law_draw : FnScope ["_law_state", "_law_limit", "_law_at", "_law_place", "_law_left", "_law_number"] ["_law_state", "_law_limit"] (defScope s_law_draw) := ⟨rfl, rfl, rfl, by decide +kernel, rfl, by decide +kernel, by decide +kernel⟩
abbrev s_law_units : Stmt := topS 42
theorem c_law_units : FnScope ["_law_state", "_law_step"] ["_law_state"] (defScope s_law_units) := ⟨rfl, rfl, rfl, by decide +kernel, rfl, by decide +kernel, by decide +kernel⟩
abbrev s_law_sizes : Stmt := topS 43
theorem c_law_sizes : FnScope ["_law_units_so", "_law_found", "_law_ratio"] ["_law_units_so"] (defScope s_law_sizes) := ⟨rfl, rfl, rfl, by decide +kernel, rfl, by decide +kernel, by decide +kernel⟩
abbrev s_law_total : Stmt := topS 44
theorem c_law_total : FnScope ["_law_units_so", "_law_row_here", "_law_number", "_law_size"] ["_law_units_so", "_law_row_here"] (defScope s_law_total) := ⟨rfl, rfl, rfl, by decide +kernel, rfl, by decide +kernel, by decide +kernel⟩
abbrev s_law_row : Stmt := topS 45
theorem c_law_row : FnScope ["_law_state", "_law_units_so", "_law_most", "_law_found", "_law_left", "_law_size", "_law_number"] ["_law_state", "_law_units_so", "_law_most"] (defScope s_law_row) := ⟨rfl, rfl, rfl, by decide +kernel, rfl, by decide +kernel, by decide +kernel⟩
abbrev s_law_without : Stmt := topS 46
theorem c_law_without : FnScope ["_law_row_here", "_law_order", "_law_near", "_law_far"] ["_law_row_here", "_law_order"] (defScope s_law_without) := ⟨rfl, rfl, rfl, by decide +kernel, rfl, by decide +kernel, by decide +kernel⟩
abbrev s_law_cuts : Stmt := topS 47
theorem c_law_cuts : FnScope ["_law_units_so", "_law_row_here", "_law_found", "_law_seen", "_law_at", "_law_here", "_law_place", "_law_near"] ["_law_units_so", "_law_row_here"] (defScope s_law_cuts) := ⟨rfl, rfl, rfl, by decide +kernel, rfl, by decide +kernel, by decide +kernel⟩
abbrev s_law_fits : Stmt := topS 48
theorem c_law_fits : FnScope ["_law_units_so", "_law_order", "_law_stock", "_law_row_here"] ["_law_units_so", "_law_order", "_law_stock"] (defScope s_law_fits) := ⟨rfl, rfl, rfl, by decide +kernel, rfl, by decide +kernel, by decide +kernel⟩
abbrev s_law_parts : Stmt := topS 49
theorem c_law_parts : FnScope ["_law_row_here", "_law_found", "_law_number", "_law_more", "_law_part", "_law_less"] ["_law_row_here"] (defScope s_law_parts) := ⟨rfl, rfl, rfl, by decide +kernel, rfl, by decide +kernel, by decide +kernel⟩
abbrev s_law_all_rows : Stmt := topS 50
theorem c_law_all_rows : FnScope ["_law_units_so", "_law_most", "_law_sizes_so", "_law_found", "_law_size", "_law_more", "_law_row_here", "_law_left", "_law_number", "_law_other"] ["_law_units_so", "_law_most"] (defScope s_law_all_rows) := ⟨rfl, rfl, rfl, by decide +kernel, rfl, by decide +kernel, by decide +kernel⟩
abbrev s_law_has : Stmt := topS 51
theorem c_law_has : FnScope ["_law_cut_rows", "_law_order", "_law_row_here"] ["_law_cut_rows", "_law_order"] (defScope s_law_has) := ⟨rfl, rfl, rfl, by decide +kernel, rfl, by decide +kernel, by decide +kernel⟩
abbrev s_law_is_row : Stmt := topS 52
theorem c_law_is_row : FnScope ["_law_units_so", "_law_value", "_law_most", "_law_wrong", "_law_item"] ["_law_units_so", "_law_value", "_law_most"] (defScope s_law_is_row) := ⟨rfl, rfl, rfl, by decide +kernel, rfl, by decide +kernel, by decide +kernel⟩
abbrev s_law_formula : Stmt := topS 53
theorem c_law_formula : FnScope ["_law_state", "_law_units_so", "_law_deep", "_law_most", "_law_pick", "_law_word", "_law_size", "_law_step"] ["_law_state", "_law_units_so", "_law_deep", "_law_most"] (defScope s_law_formula) := ⟨rfl, rfl, rfl, by decide +kernel, rfl, by decide +kernel, by decide +kernel⟩
abbrev s_law_listed : Stmt := topS 54
theorem c_law_listed : FnScope ["_law_formula_here", "_law_table", "_law_word", "_law_what", "_law_part"] ["_law_formula_here", "_law_table"] (defScope s_law_listed) := ⟨rfl, rfl, rfl, by decide +kernel, rfl, by decide +kernel, by decide +kernel⟩
abbrev s_law_suits : Stmt := topS 55
theorem c_law_suits : FnScope ["_law_units_so", "_law_table", "_law_index", "_law_row_here", "_law_seen", "_law_word", "_law_what", "_law_answer", "_law_good", "_law_part"] ["_law_units_so", "_law_table", "_law_index", "_law_row_here", "_law_seen"] (defScope s_law_suits) := ⟨rfl, rfl, rfl, by decide +kernel, rfl, by decide +kernel, by decide +kernel⟩
abbrev s_law_parted : Stmt := topS 56
theorem c_law_parted : FnScope ["_law_units_so", "_law_table", "_law_what", "_law_row_here", "_law_seen", "_law_here", "_law_part"] ["_law_units_so", "_law_table", "_law_what", "_law_row_here", "_law_seen"] (defScope s_law_parted) := ⟨rfl, rfl, rfl, by decide +kernel, rfl, by decide +kernel, by decide +kernel⟩
abbrev s_law_like : Stmt := topS 57
theorem c_law_like : FnScope ["_law_got", "_law_due"] ["_law_got", "_law_due"] (defScope s_law_like) := ⟨rfl, rfl, rfl, by decide +kernel, rfl, by decide +kernel, by decide +kernel⟩
abbrev s_law_least_ones : Stmt := topS 58
theorem c_law_least_ones : FnScope ["_law_units_so", "_law_rows", "_law_row_here", "_law_mine", "_law_at", "_law_other"] ["_law_units_so", "_law_rows"] (defScope s_law_least_ones) := ⟨rfl, rfl, rfl, by decide +kernel, rfl, by decide +kernel, by decide +kernel⟩
abbrev s_law_right : Stmt := topS 59
theorem c_law_right : FnScope ["_law_state", "_law_units_so", "_law_formula_here", "_law_rows", "_law_table", "_law_seen", "_law_index", "_law_near", "_law_mine", "_law_due", "_law_told", "_law_row_here"] ["_law_state"] (defScope s_law_right) := ⟨rfl, rfl, rfl, by decide +kernel, rfl, by decide +kernel, by decide +kernel⟩
abbrev s_law : Stmt := topS 60
theorem c_law : FnScope ["_law_script", "_law_state", "_law_turn", "_law_three", "_law_one", "_law_rows", "_law_seven", "_law_step", "_law_formula_here", "_law_due"] ["_law_script"] (defScope s_law) := ⟨rfl, rfl, rfl, by decide +kernel, rfl, by decide +kernel, by decide +kernel⟩

/-! ### a def that may be called by its name -/
structure Cl (P : Program) (w : World) (K : PySem.W.Frag) (mg : Str → Option Value) (base : Heap) (k : Nat) (x : Str) (ps : List Str) (sp : Sp) : Prop where
  ex : ∃ (f : Addr) (fd : FuncData), FnOk P w K mg base CX0 k f fd ps sp ∧ mg x = some (.ref f) ∧ PySem.W.keepIn K (.ref f) = true ∧ L2.Binds K fd ps []
/-- a def of the text as it stands behind the top -/
structure Df (K : PySem.W.Frag) (mg : Str → Option Value) (x : Str) (st : Stmt) (ps : List Str) : Prop where
  ex : ∃ (f : Addr) (fd : FuncData), Fun K x x st f fd ∧ mg x = some (.ref f) ∧ L2.Binds K fd ps []
section
variable {P : Program} {w : World} {K : PySem.W.Frag} {mg : Str → Option Value} {base : Heap} {x : Str} {st : Stmt} {N ps : List Str} {k j : Nat} {sp : Sp}
theorem cl_of (D : Df K mg x st ps) (S : FnScope N ps (defScope st)) (len : ∀ vs H Q E, sp vs H Q E → vs.length = ps.length)
    (hbody : ∀ (f : Addr) (cdv : Value) (A : Around) (outer : List Env) (s : Shared) (H : Hp) (vs : List V) (Q : VK) (E : XK), Room k (A.deeper (envOfC x (defScope st) s.heap.objs.size f cdv)) → sp vs H Q E →
      ∃ t, PSs (cxOf CX0 P w K mg base N x (defScope st) f cdv A outer s H E).nox (defBody st) t ∧ t { nx := fun _ H' => Q .non H', rt := Q } (start N vs) H) : Cl P w K mg base (k + 1) x ps sp := by
  obtain ⟨f, fd, F, hm, b⟩ := D.ex
  exact ⟨f, fd, F.ok S len (fun cdv A outer s H vs Q E => hbody f cdv A outer s H vs Q E), hm, F.kp, b⟩
theorem Cl.mono (c : Cl P w K mg base j x ps sp) (h : j ≤ k) : Cl P w K mg base k x ps sp := by
  obtain ⟨f, fd, F, r⟩ := c.ex
  exact ⟨f, fd, F.mono h, r⟩
end
section
variable {X : Cx} {k j : Nat} {x : Str} {ps : List Str} {sp : Sp} {p pos : Pos} {e : Expr} {es : List Expr} {t : TA}
theorem pe_cl (c : Cl X.prog X.w X.K X.mg X.base k x ps sp) (hr : Room j X.A) (hk : k ≤ j) (hg : Gl X x) (ha : PA X (e :: es) t)
    (hdb : (x == ("__debug__" : Str)) = false := by decide) (he : starEach (e :: es) X.env = (false, eval e X.env) :: starEach es X.env := by rfl) (hpl : (backTo pos (starEach es X.env)).any (·.1) = false := by rfl) :
    PE X (.Call (.Name x p) (e :: es) [] pos) (tCall sp [] E0 t) := by
  obtain ⟨f, fd, F, hm, kp, b⟩ := c.ex
  exact pe_call F (hr.mono hk) hg hm kp b .nil pass0 ha hdb he hpl
end
/-- the built-in names that the text uses stand free -/
structure Bi (mg : Str → Option Value) : Prop where
  isi : mg "isinstance" = none
  len : mg "len" = none
  tup : mg "tuple" = none
  zip : mg "zip" = none
  enum : mg "enumerate" = none
  min : mg "min" = none
  max : mg "max" = none
  srt : mg "sorted" = none
  rng : mg "range" = none
  sum : mg "sum" = none
  lst : mg "list" = none
  rep : mg "repr" = none
  int : mg "int" = none
  bint : mg "bool" = none
  str : mg "str" = none

/-! ### heaps -/
abbrev TI (H : Hp) (p : Addr) (ns : List Int) : Prop := H p = some (.tup (ns.map V.int))
theorem same_new {H : Hp} {p : Addr} {o : HO} (h : H p = none) : Same H (upd H p o) := fun b x e => by
  rw [upd_ne (ne_of_none e h)]
  exact e
/-- what was tracked at H0 is as it was, though l is written -/
theorem same_wr {H0 H : Hp} {l : Addr} {o : HO} (s : Same H0 H) (h : H0 l = none) : Same H0 (upd H l o) := fun b x e => by
  rw [upd_ne (ne_of_none e h)]
  exact s b x e
theorem at_int {ns : List Int} {i : Nat} {x : V} (h : (ns.map V.int)[i]? = some x) : ∃ n, ns[i]? = some n ∧ x = .int n := by
  rw [List.getElem?_map] at h
  obtain ⟨n, h1, h2⟩ := Option.map_eq_some_iff.mp h
  exact ⟨n, h1, h2.symm⟩
theorem at_intI {ns : List Int} {i : Nat} {n : Int} (h : ns[i]? = some n) : (ns.map V.int)[i]? = some (.int n) := by
  rw [List.getElem?_map, h]
  rfl
theorem at_ref {as : List Addr} {i : Nat} {x : V} (h : (as.map V.ref)[i]? = some x) : ∃ a, as[i]? = some a ∧ x = .ref a := by
  rw [List.getElem?_map] at h
  obtain ⟨n, h1, h2⟩ := Option.map_eq_some_iff.mp h
  exact ⟨n, h1, h2.symm⟩
/-- rows told one by one -/
structure Rows (H : Hp) (as : List Addr) (L : List (List Int)) : Prop where
  len : as.length = L.length
  at_ : ∀ (i : Nat) (a : Addr) (r : List Int), as[i]? = some a → L[i]? = some r → TI H a r
theorem Rows.keep {H H' : Hp} {as : List Addr} {L : List (List Int)} (R : Rows H as L) (h : ∀ b xs, H b = some (.tup xs) → H' b = some (.tup xs)) : Rows H' as L :=
  ⟨R.len, fun i a r h1 h2 => h _ _ (R.at_ i a r h1 h2)⟩
theorem Rows.nil {H : Hp} : Rows H [] [] := ⟨rfl, fun i a r h => by simp at h⟩
theorem Rows.append {H : Hp} {as bs : List Addr} {L M : List (List Int)} (R : Rows H as L) (S : Rows H bs M) : Rows H (as ++ bs) (L ++ M) := by
  refine ⟨by rw [List.length_append, List.length_append, R.len, S.len], fun i a r h1 h2 => ?_⟩
  rw [List.getElem?_append] at h1 h2
  rw [R.len] at h1
  by_cases h : i < L.length
  · rw [if_pos h] at h1 h2
    exact R.at_ i a r h1 h2
  · rw [if_neg h] at h1 h2
    exact S.at_ _ a r h1 h2
theorem Rows.one {H : Hp} {a : Addr} {r : List Int} (h : TI H a r) : Rows H [a] [r] := ⟨rfl, fun i b q h1 h2 => by
  cases i with
  | zero => simp at h1 h2; subst h1 h2; exact h
  | succ i => simp at h1⟩
theorem Rows.snoc {H : Hp} {as : List Addr} {L : List (List Int)} {a : Addr} {r : List Int} (R : Rows H as L) (h : TI H a r) : Rows H (as ++ [a]) (L ++ [r]) := R.append (.one h)
theorem Rows.get {H : Hp} {as : List Addr} {L : List (List Int)} (R : Rows H as L) {i : Nat} {a : Addr} (h : as[i]? = some a) : ∃ r, L[i]? = some r ∧ TI H a r := by
  have hi : i < L.length := by rw [← R.len]; exact (List.getElem?_eq_some_iff.mp h).1
  exact ⟨L[i], List.getElem?_eq_getElem hi, R.at_ i a _ h (List.getElem?_eq_getElem hi)⟩
theorem take_snoc {α : Type} {l : List α} {i : Nat} {x : α} (h : l[i]? = some x) : l.take (i + 1) = l.take i ++ [x] := by
  rw [List.take_add_one, h]
  rfl
theorem small60 {n : Nat} (h : n ≤ 1000000) : n < sizeLine := by rw [sizeLine_eq]; omega
end SR

namespace SR
open PySem PySem.Spec PyProof.Rows L2 SY
/-- the constants of the text -/
structure Cn (mg : Str → Option Value) : Prop where
  mu : ∃ u, mg "MOST_UNITS" = some u ∧ RelV (.int 3) u
  mr : ∃ u, mg "MOST_RATIO" = some u ∧ RelV (.int 10) u
  mp : ∃ u, mg "MOST_PIECES" = some u ∧ RelV (.int (10 ^ 60)) u
  md : ∃ u, mg "MOST_DEEP" = some u ∧ RelV (.int 6) u
  mq : ∃ u, mg "MOST_PARTS" = some u ∧ RelV (.int 20) u
  mb : ∃ u, mg "MOST_BRANCHES" = some u ∧ RelV (.int 4) u
  ml : ∃ u, mg "MOST_LEAST" = some u ∧ RelV (.int 40) u
theorem pe_cn {X : Cx} {x : Str} {v : V} {pos : Pos} (hg : Gl X x) (h : ∃ u, X.mg x = some u ∧ RelV v u) (hd : (x == ("__debug__" : Str)) = false := by decide) : PE X (.Name x pos) (tC v) :=
  let ⟨_, h1, h2⟩ := h
  pe_glob hg h1 h2 hd
/-- ratios as they are asked for -/
def Us (us : List Int) : Prop := us.length ≤ 3 ∧ ∀ u ∈ us, 2 ≤ u ∧ u ≤ 10
theorem Us.pos {us : List Int} (h : Us us) : SY.pos us := fun u hu => by have := h.2 u hu; omega
theorem cut_one (xs : List V) : cutV xs (some 1) none = xs.drop 1 := by
  unfold cutV
  have e1 : HT.sIx xs.length 0 (some 1) = min 1 xs.length := HT.sIx_nat xs.length 0 1
  rw [e1, HT.sIx_none]
  cases xs with
  | nil => rfl
  | cons x r =>
    have e2 : min 1 (x :: r).length = 1 := by rw [List.length_cons]; omega
    rw [e2]
    show List.take ((x :: r).length - 1) r = r
    rw [List.length_cons, Nat.add_sub_cancel, List.take_length]
theorem not_whole {n : Nat} (h : 1 ≤ n) : ¬ (HT.sIx n 0 (some 1) = 0 ∧ HT.sIx n n none = n) := fun q => by
  have e1 : HT.sIx n 0 (some 1) = min 1 n := HT.sIx_nat n 0 1
  rw [e1] at q
  omega
section
variable {P : Program} {w : World} {K : PySem.W.Frag} {mg : Str → Option Value} {base : Heap}
/-! ### is_from, need_units, is_row, need_row -/
def spIsFrom : Sp := fun vs H Q _ => ∃ n lo hi : Int, vs = [.int n, .int lo, .int hi] ∧ Q (.bl (decide (lo ≤ n) && decide (n ≤ hi))) H
theorem ok_is_from (D : Df K mg "is_from" s_is_from ["value", "low", "high"]) (B : Bi mg) : Cl P w K mg base 1 "is_from" ["value", "low", "high"] spIsFrom := by
  refine cl_of D c_is_from (fun vs H Q E h => ?_) (fun f cdv A outer s H vs Q E hr h => ?_)
  · obtain ⟨n, lo, hi, rfl, _⟩ := h
    rfl
  obtain ⟨n, lo, hi, rfl, q⟩ := h
  refine ⟨_, pss_one (ps_ret (pe_and (pe_callB call_isi (by rfl) B.isi PyProof.Rows.boot_isinstance (pa_cons (pv 0) (pa_cons (pe_bltn (v := .ty "int") (by rfl) B.int boot_int rfl) pa_nil)))
    (pe_and (pe_not (pe_callB call_isi (by rfl) B.isi PyProof.Rows.boot_isinstance (pa_cons (pv 0) (pa_cons (pe_bltn (v := .ty "bool") (by rfl) B.bint (by decide +kernel) rfl) pa_nil))))
      (pe_one (pe_chain op_le op_le (pv 1) (pv 0) (pv 2)))))), ?_⟩
  refine ⟨_, rfl, _, _, _, _, true, rfl, .ty "int", .base (.int n), kit_ty (by decide +kernel), true, rfl, ?_⟩
  refine iteT ⟨_, rfl, _, _, _, _, false, rfl, .ty "bool", .base (.int n), kit_ty (by decide +kernel), false, rfl, true, rfl, iteT ?_⟩
  refine ⟨_, rfl, _, rfl, lo, n, rfl, rfl, decide (lo ≤ n), rfl, ?_⟩
  by_cases c : lo ≤ n
  · rw [if_pos (decide_eq_true c)]
    refine ⟨_, rfl, n, hi, rfl, rfl, ?_⟩
    rw [decide_eq_true c, Bool.true_and] at q
    exact q
  · rw [if_neg (by rw [decide_eq_true_eq]; exact c)]
    rw [decide_eq_false c, Bool.false_and] at q
    exact q
def spNeedUnits : Sp := fun vs H Q _ => ∃ (p : Addr) (us : List Int), vs = [.ref p] ∧ TI H p us ∧ Us us ∧ Q (.ref p) H
theorem ok_need_units (D : Df K mg "need_units" s_need_units ["value"]) (B : Bi mg) (C : Cn mg) (F : Cl P w K mg base 1 "is_from" ["value", "low", "high"] spIsFrom) : Cl P w K mg base 2 "need_units" ["value"] spNeedUnits := by
  refine cl_of D c_need_units (fun vs H Q E h => ?_) (fun f cdv A outer s H vs Q E hr h => ?_)
  · obtain ⟨n, lo, rfl, _⟩ := h
    rfl
  obtain ⟨p, us, rfl, hp, hu, q⟩ := h
  refine ⟨_, pss_cons (ps_if (PW.pt (pw_or (pt_not (pt_val (pe_callB call_isi (by rfl) B.isi PyProof.Rows.boot_isinstance (pa_cons (pv 0) (pa_cons (pe_bltn (v := .ty "tuple") (by rfl) B.tup (by decide +kernel) rfl) pa_nil)))))
      (pw_or1 (pt_cmpR op_gt (pe_callB call_len_seq (by rfl) B.len PySem.boot_len (pa_cons (pv 0) pa_nil)) (pe_cn (by rfl) C.mu) (nomark _))))) (pss_one ps_never) pss_nil)
    (pss_cons (ps_for PassesOwn.never rfl (pi_tup (pv 0)) (pg_name (i := 1) c_need_units.nd rfl (.inl rfl))
      (pss_one (ps_if (pt_not (pt_val (pe_cl F hr (by omega) (by rfl) (pa_cons (pv 1) (pa_cons pe_int (pa_cons (pe_cn (by rfl) C.mr) pa_nil)))))) (pss_one ps_never) pss_nil)))
    (pss_one (ps_ret (pv 0)))), ?_⟩
  refine ⟨_, rfl, _, _, _, _, true, rfl, .ty "tuple", .base (.tup hp), kit_ty (by decide +kernel), true, rfl, ?_⟩
  refine iteF ⟨_, rfl, p, _, rfl, .inr (SqT.of hp), _, _, rfl, rfl, _, rfl, ?_⟩
  rw [decide_eq_false (by rw [List.length_map]; have := hu.1; omega)]
  refine iteF ⟨_, rfl, p, rfl, ⟨_, SqT.of hp⟩, for_tup (xs := us.map V.int) (fun i σ G => G = H ∧ ∃ y, σ = [some (.ref p), y]) ⟨rfl, none, rfl⟩ (fun i σ G _ h => by rw [h.1]; exact SqT.of hp) ?_ ?_⟩
  · rintro i x σ G hx ⟨rfl, y, rfl⟩
    obtain ⟨n, hn, rfl⟩ := at_int hx
    have hb := hu.2 n (List.mem_of_getElem? hn)
    refine ⟨_, rfl, n, 2, 10, rfl, _, rfl, ?_⟩
    rw [decide_eq_true hb.1, decide_eq_true hb.2]
    exact iteF ⟨rfl, _, rfl⟩
  · rintro σ G ⟨rfl, y, rfl⟩
    exact ⟨_, rfl, q⟩
def rowOkB (us r : List Int) : Bool := decide (r.length = us.length + 1) && r.all fun x => decide (0 ≤ x) && decide (x ≤ 10 ^ 60)
/-- is_row of a tuple of ints that is one -/
def spIsRow : Sp := fun vs H Q _ => ∃ (p q : Addr) (us r : List Int), vs = [.ref p, .ref q] ∧ TI H p us ∧ TI H q r ∧ rowB us r = true ∧ Q (.bl true) H
theorem ok_is_row (D : Df K mg "is_row" s_is_row ["units", "value"]) (B : Bi mg) (C : Cn mg) (F : Cl P w K mg base 1 "is_from" ["value", "low", "high"] spIsFrom) : Cl P w K mg base 2 "is_row" ["units", "value"] spIsRow := by
  refine cl_of D c_is_row (fun vs H Q E h => ?_) (fun f cdv A outer s H vs Q E hr h => ?_)
  · obtain ⟨p, q, us, r, rfl, _⟩ := h
    rfl
  obtain ⟨p, q, us, r, rfl, hp, hq, hb, k⟩ := h
  unfold rowB at hb
  rw [Bool.and_eq_true, decide_eq_true_eq, List.all_eq_true] at hb
  refine ⟨_, pss_cons (ps_if (PW.pt (pw_or (pt_not (pt_val (pe_callB call_isi (by rfl) B.isi PyProof.Rows.boot_isinstance (pa_cons (pv 1) (pa_cons (pe_bltn (v := .ty "tuple") (by rfl) B.tup (by decide +kernel) rfl) pa_nil)))))
      (pw_or1 (pt_cmpR op_ne (pe_callB call_len_seq (by rfl) B.len PySem.boot_len (pa_cons (pv 1) pa_nil)) (pe_op op_add (pe_callB call_len_seq (by rfl) B.len PySem.boot_len (pa_cons (pv 0) pa_nil)) pe_int) (nomark _))))) (pss_one (ps_ret pe_bl)) pss_nil)
    (pss_cons (ps_for PassesOwn.never rfl (pi_tup (pv 1)) (pg_name (i := 2) c_is_row.nd rfl (.inl rfl))
      (pss_one (ps_if (pt_not (pt_val (pe_cl F hr (by omega) (by rfl) (pa_cons (pv 2) (pa_cons pe_int (pa_cons (pe_cn (by rfl) C.mp) pa_nil)))))) (pss_one (ps_ret pe_bl)) pss_nil)))
    (pss_one (ps_ret pe_bl))), ?_⟩
  refine ⟨_, rfl, _, _, _, _, true, rfl, .ty "tuple", .base (.tup hq), kit_ty (by decide +kernel), true, rfl, ?_⟩
  refine iteF ⟨_, rfl, q, _, rfl, .inr (SqT.of hq), _, rfl, p, _, rfl, .inr (SqT.of hp), _, _, rfl, rfl, rfl, _, rfl, ?_⟩
  have e : (V.int ((r.map V.int).length : Int)) = V.int (((us.map V.int).length : Int) + 1) := by
    rw [List.length_map, List.length_map, hb.1]
    rfl
  rw [e]
  refine iteNS rfl ?_
  refine ⟨_, rfl, q, rfl, ⟨_, SqT.of hq⟩, for_tup (xs := r.map V.int) (fun i σ G => G = H ∧ ∃ y, σ = [some (.ref p), some (.ref q), y]) ⟨rfl, none, rfl⟩ (fun i σ G _ h => by rw [h.1]; exact SqT.of hq) ?_ ?_⟩
  · rintro i x σ G hx ⟨rfl, y, rfl⟩
    obtain ⟨n, hn, rfl⟩ := at_int hx
    have hb2 := hb.2 n (List.mem_of_getElem? hn)
    refine ⟨_, rfl, n, 0, 10 ^ 60, rfl, _, rfl, ?_⟩
    rw [hb2]
    exact iteF ⟨rfl, _, rfl⟩
  · rintro σ G ⟨rfl, y, rfl⟩
    exact k
def spNeedRow : Sp := fun vs H Q _ => ∃ (p q : Addr) (us r : List Int), vs = [.ref p, .ref q] ∧ TI H p us ∧ Us us ∧ TI H q r ∧ rowB us r = true ∧ Q (.ref q) H
theorem ok_need_row (D : Df K mg "need_row" s_need_row ["units", "value"]) (F : Cl P w K mg base 2 "need_units" ["value"] spNeedUnits) (G : Cl P w K mg base 2 "is_row" ["units", "value"] spIsRow) : Cl P w K mg base 3 "need_row" ["units", "value"] spNeedRow := by
  refine cl_of D c_need_row (fun vs H Q E h => ?_) (fun f cdv A outer s H vs Q E hr h => ?_)
  · obtain ⟨p, q, us, r, rfl, _⟩ := h
    rfl
  obtain ⟨p, q, us, r, rfl, hp, hu, hq, hb, k⟩ := h
  refine ⟨_, pss_cons (ps_expr (pe_cl F hr (by omega) (by rfl) (pa_cons (pv 0) pa_nil)))
    (pss_cons (ps_if (pt_not (pt_val (pe_cl G hr (by omega) (by rfl) (pa_cons (pv 0) (pa_cons (pv 1) pa_nil))))) (pss_one ps_never) pss_nil)
    (pss_one (ps_ret (pv 1)))), ?_⟩
  refine ⟨_, rfl, p, us, rfl, hp, hu, _, rfl, _, rfl, p, q, us, r, rfl, hp, hq, hb, true, rfl, iteF ⟨_, rfl, k⟩⟩
/-! ### zeros_of, added, less -/
def spZeros : Sp := fun vs H Q _ => ∃ (p : Addr) (us : List Int), vs = [.ref p] ∧ TI H p us ∧ us.length ≤ 3 ∧ ∀ H' q, Same H H' → TI H' q (zeros us) → Q (.ref q) H'
theorem rep_zero (n : Nat) : (List.replicate n [V.int 0]).flatten = (List.replicate n (0 : Int)).map V.int := by
  induction n with
  | zero => rfl
  | succ n ih =>
    rw [List.replicate_succ, List.flatten_cons, ih, List.replicate_succ]
    rfl
theorem ok_zeros (D : Df K mg "zeros_of" s_zeros_of ["units"]) (B : Bi mg) : Cl P w K mg base 1 "zeros_of" ["units"] spZeros := by
  refine cl_of D c_zeros_of (fun vs H Q E h => ?_) (fun f cdv A outer s H vs Q E hr h => ?_)
  · obtain ⟨p, us, rfl, _⟩ := h
    rfl
  obtain ⟨p, us, rfl, hp, hl, k⟩ := h
  refine ⟨_, pss_one (ps_ret (pe_op (OpR.or op_repT op_repT1) (pe_tup (pa_cons pe_int pa_nil)) (pe_op op_add (pe_callB call_len_seq (by rfl) B.len PySem.boot_len (pa_cons (pv 0) pa_nil)) pe_int))), ?_⟩
  refine ⟨by show 1 ≤ sizeLine; decide, fun t ht => ?_⟩
  have sm : Same H (upd H t (.tup [.int 0])) := same_new ht
  refine ⟨_, rfl, p, _, rfl, .inr (SqT.of (sm _ _ hp)), _, _, rfl, rfl, ?_⟩
  cases us with
  | nil => exact .inr ⟨t, _, rfl, rfl, SqT.of upd_same, k _ t sm upd_same⟩
  | cons u r =>
    refine .inl ⟨t, _, [.int 0], rfl, rfl, SqT.of upd_same, (by simp), ?_, ?_, (by decide), fun q hq => k _ q (sm.trans (same_new hq)) ?_⟩
    · rw [List.length_map, List.length_cons]; omega
    · rw [List.length_map]; omega
    · show upd _ q _ q = _
      rw [upd_same, rep_zero]
      have e : ((((u :: r).map V.int).length : Int) + 1).toNat = (u :: r).length + 1 := by rw [List.length_map]; omega
      rw [e]
      rfl
def spAdd2 (g : List Int → List Int → List Int) : Sp := fun vs H Q _ => ∃ (p q : Addr) (a b : List Int), vs = [.ref p, .ref q] ∧ TI H p a ∧ TI H q b ∧ a.length = b.length ∧ a.length ≤ 1000 ∧ ∀ H' t, Same H H' → TI H' t (g a b) → Q (.ref t) H'
theorem ok_added (D : Df K mg "added" s_added ["one", "other"]) (B : Bi mg) : Cl P w K mg base 1 "added" ["one", "other"] (spAdd2 addL) := by
  refine cl_of D c_added (fun vs H Q E h => ?_) (fun f cdv A outer s H vs Q E hr h => ?_)
  · obtain ⟨p, q, a, b, rfl, _⟩ := h
    rfl
  obtain ⟨p, q, a, b, rfl, hp, hq, hl, hz, k⟩ := h
  refine ⟨_, pss_one (ps_ret (pe_callTy call_tuple_of (by rfl) B.tup (by decide +kernel) (pa_cons
    (pe_lc (own := [("near", 2), ("far", 3)]) (g := gTup K 2 (gCons (gName 2) (gCons (gName 3) gNil))) (tt := tYes) rfl c_added.nd (RZ.pi_zipA (by rfl) B.zip (pa_cons (pv 0) (pa_cons (pv 1) pa_nil))) (blkOk_by (N := ["one", "other", "near", "far"]) (sc := defScope s_added) (by decide +kernel))
      (fun _ _ _ _ _ => pg_tup rfl (pgs_cons (pg_name (i := 2) c_added.nd rfl (.inl rfl)) (pgs_cons (pg_name (i := 3) c_added.nd rfl (.inl rfl)) pgs_nil))) (fun _ _ _ _ _ => pts_nil) (fun _ _ _ _ _ => pe_op op_add (pv 2) (pv 3))) pa_nil))), ?_⟩
  have la := addL_len a b hl
  refine ⟨_, rfl, _, rfl, p, q, _, _, rfl, .inr ⟨SqT.of hp, SqT.of hq, fun D0 hD => lc_it (walk_zipT (n := a.length) (by rw [List.length_map, List.length_map, ← hl, Nat.min_self]))
    (fun i G => Same H G ∧ G D0 = some (.lst (((addL a b).take i).map V.int))) ⟨same_new hD, upd_same⟩ (fun i G _ h => ⟨SqT.of (h.1 _ _ hp), SqT.of (h.1 _ _ hq)⟩) ?_ ?_⟩⟩
  · rintro i x G G' hi ⟨sm, hG⟩ ⟨T, x1, x2, rfl, nT, rfl, e1, e2⟩
    obtain ⟨n1, h1, rfl⟩ := at_int e1
    obtain ⟨n2, h2, rfl⟩ := at_int e2
    refine ⟨T, _, rfl, SqT.of upd_same, rfl, _, _, rfl, _, _, rfl, rfl, rfl, ?_⟩
    refine ⟨_, rfl, _, rfl, n1, n2, rfl, rfl, _, (by rw [upd_ne (ne_of_none hG nT)]; exact hG), ?_, same_wr (sm.trans (same_new nT)) hD, ?_⟩
    · rw [List.length_map, List.length_take]
      exact small60 (by omega)
    · rw [upd_same, take_snoc (addL_get a b i n1 n2 h1 h2), List.map_append]
      rfl
  · rintro G ⟨sm, hG⟩
    rw [List.take_of_length_le (by omega)] at hG
    exact ⟨D0, _, rfl, .inl ⟨SqL.of hG, fun l hl' => k _ l (sm.trans (same_new hl')) upd_same⟩⟩
theorem ok_less (D : Df K mg "less" s_less ["one", "other"]) (B : Bi mg) : Cl P w K mg base 1 "less" ["one", "other"] (spAdd2 subL) := by
  refine cl_of D c_less (fun vs H Q E h => ?_) (fun f cdv A outer s H vs Q E hr h => ?_)
  · obtain ⟨p, q, a, b, rfl, _⟩ := h
    rfl
  obtain ⟨p, q, a, b, rfl, hp, hq, hl, hz, k⟩ := h
  refine ⟨_, pss_one (ps_ret (pe_callTy call_tuple_of (by rfl) B.tup (by decide +kernel) (pa_cons
    (pe_lc (own := [("near", 2), ("far", 3)]) (g := gTup K 2 (gCons (gName 2) (gCons (gName 3) gNil))) (tt := tYes) rfl c_less.nd (RZ.pi_zipA (by rfl) B.zip (pa_cons (pv 0) (pa_cons (pv 1) pa_nil))) (blkOk_by (N := ["one", "other", "near", "far"]) (sc := defScope s_less) (by decide +kernel))
      (fun _ _ _ _ _ => pg_tup rfl (pgs_cons (pg_name (i := 2) c_less.nd rfl (.inl rfl)) (pgs_cons (pg_name (i := 3) c_less.nd rfl (.inl rfl)) pgs_nil))) (fun _ _ _ _ _ => pts_nil) (fun _ _ _ _ _ => pe_op op_sub (pv 2) (pv 3))) pa_nil))), ?_⟩
  have la := subL_len a b hl
  refine ⟨_, rfl, _, rfl, p, q, _, _, rfl, .inr ⟨SqT.of hp, SqT.of hq, fun D0 hD => lc_it (walk_zipT (n := a.length) (by rw [List.length_map, List.length_map, ← hl, Nat.min_self]))
    (fun i G => Same H G ∧ G D0 = some (.lst (((subL a b).take i).map V.int))) ⟨same_new hD, upd_same⟩ (fun i G _ h => ⟨SqT.of (h.1 _ _ hp), SqT.of (h.1 _ _ hq)⟩) ?_ ?_⟩⟩
  · rintro i x G G' hi ⟨sm, hG⟩ ⟨T, x1, x2, rfl, nT, rfl, e1, e2⟩
    obtain ⟨n1, h1, rfl⟩ := at_int e1
    obtain ⟨n2, h2, rfl⟩ := at_int e2
    refine ⟨T, _, rfl, SqT.of upd_same, rfl, _, _, rfl, _, _, rfl, rfl, rfl, ?_⟩
    refine ⟨_, rfl, _, rfl, n1, n2, rfl, rfl, _, (by rw [upd_ne (ne_of_none hG nT)]; exact hG), ?_, same_wr (sm.trans (same_new nT)) hD, ?_⟩
    · rw [List.length_map, List.length_take]
      exact small60 (by omega)
    · rw [upd_same, take_snoc (subL_get a b i n1 n2 h1 h2), List.map_append]
      rfl
  · rintro G ⟨sm, hG⟩
    rw [List.take_of_length_le (by omega)] at hG
    exact ⟨D0, _, rfl, .inl ⟨SqL.of hG, fun l hl' => k _ l (sm.trans (same_new hl')) upd_same⟩⟩
end
end SR

namespace SR
open PySem PySem.Spec PyProof.Rows L2 SY
section
variable {P : Program} {w : World} {K : PySem.W.Frag} {mg : Str → Option Value} {base : Heap}
def spStairFrom : Sp := fun vs H Q _ => ∃ (p q : Addr) (us r : List Int), vs = [.ref p, .ref q] ∧ TI H p us ∧ Us us ∧ TI H q r ∧ r.length = us.length + 1 ∧ ∀ H' t, Same H H' → TI H' t (stair us r) → Q (.ref t) H'
theorem ok_stair_from (D : Df K mg "stair_from" s_stair_from ["units", "row"]) (B : Bi mg) : Cl P w K mg base 1 "stair_from" ["units", "row"] spStairFrom := by
  refine cl_of D c_stair_from (fun vs H Q E h => ?_) (fun f cdv A outer s H vs Q E hr h => ?_)
  · obtain ⟨p, q, us, r, rfl, _⟩ := h
    rfl
  obtain ⟨p, q, us, r, rfl, hp, hu, hq, hl, k⟩ := h
  refine ⟨_, pss_cons (ps_set (i := 2) c_stair_from.nd rfl (.inl rfl) (pe_lst (pa_cons (pe_ix ix_tup (pv 1) pe_int (fun _ _ => rfl)) pa_nil)))
    (pss_cons (ps_for PassesOwn.never rfl (RZ.pi_zipA (by rfl) B.zip (pa_cons (pv 0) (pa_cons (pe_slice sl_tup (pv 1) (po_some pe_int) po_none) pa_nil)))
        (pg_tup rfl (pgs_cons (pg_name (i := 3) c_stair_from.nd rfl (.inl rfl)) (pgs_cons (pg_name (i := 4) c_stair_from.nd rfl (.inl rfl)) pgs_nil)))
      (pss_one (ps_expr (pe_bm PySem.F.plainAttrs_list PySem.F.slot_list_append PySem.F.type_list_append mt_append (pv 2)
        (pa_cons (pe_op op_add (pe_op op_mul (pv 3) (pe_ix ix_list (pv 2) (pe_un un_neg pe_int) (fun _ _ => rfl))) (pv 4)) pa_nil)))))
    (pss_one (ps_ret (pe_callTy call_tuple_of (by rfl) B.tup (by decide +kernel) (pa_cons (pv 2) pa_nil))))), ?_⟩
  have ls := stair_len hl
  obtain ⟨r0, rs, rfl⟩ : ∃ r0 rs, r = r0 :: rs := by
    cases r with
    | nil => simp at hl
    | cons a b => exact ⟨a, b, rfl⟩
  have lrs : rs.length = us.length := by simp only [List.length_cons] at hl; omega
  -- found = [row[0]]
  refine ⟨_, rfl, q, _, 0, _, rfl, rfl, SqT.of hq, atI_nat (j := 0) rfl, by show 1 ≤ sizeLine; decide, fun o ho => ?_⟩
  have s1 : Same H (upd H o (.lst [.int r0])) := same_new ho
  -- zip(units, row[1:])
  refine ⟨_, rfl, _, rfl, 1, rfl, q, _, rfl, SqT.of (s1 _ _ hq), not_whole (by rw [List.length_map, List.length_cons]; omega), fun t ht => ?_⟩
  have nto : o ≠ t := fun e => by rw [← e, upd_same] at ht; cases ht
  have s2 := s1.trans (same_new (o := .tup (cutV ((r0 :: rs).map V.int) (some 1) none)) ht)
  have ec : cutV ((r0 :: rs).map V.int) (some 1) none = rs.map V.int := by rw [cut_one]; rfl
  refine ⟨p, t, us.map V.int, rs.map V.int, rfl, .inr ⟨SqT.of (s2 _ _ hp), SqT.of (by rw [upd_same, ec]), ?_⟩⟩
  refine for_it (walk_zipT (n := us.length) (by rw [List.length_map, List.length_map, lrs, Nat.min_self]))
    (fun i σ G => Same H G ∧ TI G t rs ∧ G o = some (.lst (((stair us (r0 :: rs)).take (i + 1)).map V.int)) ∧ ∃ y z, σ = [some (.ref p), some (.ref q), some (.ref o), y, z])
    ⟨s2, by show upd _ t _ t = _; rw [upd_same, ec], by rw [upd_ne nto, upd_same]; rfl, none, none, rfl⟩ (fun i σ G _ h => ⟨SqT.of (h.1 _ _ hp), SqT.of h.2.1⟩) ?_ ?_
  · rintro i x σ G G' hi ⟨sm, hT, hG, y, z, rfl⟩ ⟨T, x1, x2, rfl, nT, rfl, e1, e2⟩
    obtain ⟨u, h1, rfl⟩ := at_int e1
    obtain ⟨n, h2, rfl⟩ := at_int e2
    have hb := hu.2 u (List.mem_of_getElem? h1)
    have hsi : i < (stair us (r0 :: rs)).length := by omega
    obtain ⟨sv, hsv⟩ : ∃ v, (stair us (r0 :: rs))[i]? = some v := ⟨_, List.getElem?_eq_getElem hsi⟩
    have nx := stair_next h1 (by simpa using h2) hsv
    have hG2 : (upd G T (.tup [.int u, .int n])) o = some (.lst (((stair us (r0 :: rs)).take (i + 1)).map V.int)) := by
      rw [upd_ne (ne_of_none hG nT)]
      exact hG
    have last : atI (((stair us (r0 :: rs)).take (i + 1)).map V.int) (-1) = some (.int sv) := by
      rw [take_snoc hsv, List.map_append]
      exact atI_last _ _
    refine ⟨T, _, rfl, SqT.of upd_same, rfl, _, _, rfl, _, _, rfl, rfl, ?_⟩
    refine ⟨_, rfl, .inl ⟨rfl, _, SqL.of hG2⟩, _, rfl, _, rfl, 1, rfl, o, _, -1, _, rfl, rfl, SqL.of hG2, last, u, sv, rfl, rfl, .inl ⟨by omega, by omega⟩, _, rfl, _, n, rfl, rfl, o, _, _, rfl, rfl, hG2, ?_, ?_⟩
    · rw [List.length_map, List.length_take]
      exact small60 (by have := hu.1; omega)
    · refine ⟨same_wr (sm.trans (same_new nT)) ho, ?_, ?_, _, _, rfl⟩
      · show upd _ o _ t = _
        rw [upd_ne (Ne.symm nto), upd_ne (ne_of_none hT nT)]
        exact hT
      · rw [upd_same, take_snoc nx, List.map_append]
        rfl
  · rintro σ G ⟨sm, hT, hG, y, z, rfl⟩
    rw [List.take_of_length_le (by omega)] at hG
    exact ⟨_, rfl, o, _, rfl, .inl ⟨SqL.of hG, fun l hl' => k _ l (sm.trans (same_new hl')) upd_same⟩⟩
/-- a list or a tuple of ints -/
def SqI (H : Hp) (p : Addr) (ns : List Int) : Prop := H p = some (.tup (ns.map V.int)) ∨ H p = some (.lst (ns.map V.int))
theorem SqI.keep {H H' : Hp} {p : Addr} {ns : List Int} (h : SqI H p ns) (s : Same H H') : SqI H' p ns := h.imp (s _ _) (s _ _)
theorem SqI.ix {H : Hp} {p : Addr} {ns : List Int} {i : Int} {j : Nat} {n : Int} {Q : VK} (h : SqI H p ns) (e : i = (j : Int)) (hj : ns[j]? = some n) (q : Q (.int n) H) : rIx K (.ref p) (.int i) H Q := by
  have a : atI (ns.map V.int) i = some (.int n) := at_of e (at_intI hj)
  rcases h with h | h
  · exact .inr (.inl ⟨p, _, i, _, rfl, rfl, SqT.of h, a, q⟩)
  · exact .inl ⟨p, _, i, _, rfl, rfl, SqL.of h, a, q⟩
def spRowFrom : Sp := fun vs H Q _ => ∃ (p q : Addr) (us r : List Int), vs = [.ref p, .ref q] ∧ TI H p us ∧ Us us ∧ SqI H q r ∧ r.length = us.length + 1 ∧ ∀ H' t, Same H H' → TI H' t (rowOf us r) → Q (.ref t) H'
theorem ok_row_from (D : Df K mg "row_from" s_row_from ["units", "stair"]) (B : Bi mg) : Cl P w K mg base 1 "row_from" ["units", "stair"] spRowFrom := by
  refine cl_of D c_row_from (fun vs H Q E h => ?_) (fun f cdv A outer s H vs Q E hr h => ?_)
  · obtain ⟨p, q, us, r, rfl, _⟩ := h
    rfl
  obtain ⟨p, q, us, r, rfl, hp, hu, hq, hl, k⟩ := h
  refine ⟨_, pss_cons (ps_set (i := 2) c_row_from.nd rfl (.inl rfl) (pe_lst (pa_cons (pe_ix ix_seq (pv 1) pe_int (fun _ _ => rfl)) pa_nil)))
    (pss_cons (ps_for PassesOwn.never rfl (pi_enumT (by rfl) B.enum (pa_cons (pv 0) pa_nil))
        (pg_tup rfl (pgs_cons (pg_name (i := 3) c_row_from.nd rfl (.inl rfl)) (pgs_cons (pg_name (i := 4) c_row_from.nd rfl (.inl rfl)) pgs_nil)))
      (pss_one (ps_expr (pe_bm PySem.F.plainAttrs_list PySem.F.slot_list_append PySem.F.type_list_append mt_append (pv 2)
        (pa_cons (pe_op op_sub (pe_ix ix_seq (pv 1) (pe_op op_add (pv 3) pe_int) (fun _ _ => rfl)) (pe_op op_mul (pv 4) (pe_ix ix_seq (pv 1) (pv 3) (fun _ _ => rfl)))) pa_nil)))))
    (pss_one (ps_ret (pe_callTy call_tuple_of (by rfl) B.tup (by decide +kernel) (pa_cons (pv 2) pa_nil))))), ?_⟩
  have ls := rowOf_len hl
  obtain ⟨r0, rs, rfl⟩ : ∃ r0 rs, r = r0 :: rs := by
    cases r with
    | nil => simp at hl
    | cons a b => exact ⟨a, b, rfl⟩
  have lrs : rs.length = us.length := by simp only [List.length_cons] at hl; omega
  refine ⟨_, rfl, hq.ix (j := 0) rfl rfl ⟨by show 1 ≤ sizeLine; decide, fun o ho => ?_⟩⟩
  have s1 : Same H (upd H o (.lst [.int r0])) := same_new ho
  refine ⟨_, rfl, p, us.map V.int, rfl, SqT.of (s1 _ _ hp), ?_⟩
  refine for_it (walk_enumT (xs := us.map V.int))
    (fun i σ G => Same H G ∧ G o = some (.lst (((rowOf us (r0 :: rs)).take (i + 1)).map V.int)) ∧ ∃ y z, σ = [some (.ref p), some (.ref q), some (.ref o), y, z])
    ⟨s1, by rw [upd_same]; rfl, none, none, rfl⟩ (fun i σ G _ h => SqT.of (h.1 _ _ hp)) ?_ ?_
  · rintro i x σ G G' hi ⟨sm, hG, y, z, rfl⟩ ⟨T, x1, x2, rfl, nT, rfl, e1, e2⟩
    cases e1
    obtain ⟨u, h1, rfl⟩ := at_int e2
    rw [List.length_map] at hi
    have hb := hu.2 u (List.mem_of_getElem? h1)
    obtain ⟨sv, hsv⟩ : ∃ v, (r0 :: rs)[i]? = some v := ⟨_, List.getElem?_eq_getElem (by simp only [List.length_cons]; omega)⟩
    obtain ⟨tv, htv⟩ : ∃ v, (r0 :: rs)[i + 1]? = some v := ⟨_, List.getElem?_eq_getElem (by simp only [List.length_cons]; omega)⟩
    have nx := rowOf_next h1 hsv htv
    have sm2 := sm.trans (same_new (o := .tup [V.int (i : Nat), .int u]) nT)
    have hG2 : (upd G T (.tup [.int (i : Nat), .int u])) o = some (.lst (((rowOf us (r0 :: rs)).take (i + 1)).map V.int)) := by
      rw [upd_ne (ne_of_none hG nT)]
      exact hG
    refine ⟨T, _, rfl, SqT.of upd_same, rfl, _, _, rfl, _, _, rfl, rfl, ?_⟩
    refine ⟨_, rfl, .inl ⟨rfl, _, SqL.of hG2⟩, _, rfl, _, rfl, _, 1, rfl, rfl, (hq.keep sm2).ix (j := i + 1) (by omega) htv ⟨_, rfl, _, rfl, _, rfl, (hq.keep sm2).ix (j := i) rfl hsv ⟨u, sv, rfl, rfl, .inl ⟨by omega, by omega⟩, tv, u * sv, rfl, rfl, o, _, _, rfl, rfl, hG2, ?_, ?_⟩⟩⟩
    · rw [List.length_map, List.length_take]
      exact small60 (by have := hu.1; omega)
    · refine ⟨same_wr sm2 ho, ?_, _, _, rfl⟩
      rw [upd_same, take_snoc nx, List.map_append]
      rfl
  · rintro σ G ⟨sm, hG, y, z, rfl⟩
    rw [List.length_map, List.take_of_length_le (by omega)] at hG
    exact ⟨_, rfl, o, _, rfl, .inl ⟨SqL.of hG, fun l hl' => k _ l (sm.trans (same_new hl')) upd_same⟩⟩
def spWithin : Sp := fun vs H Q _ => ∃ (p a b : Addr) (us r t : List Int), vs = [.ref p, .ref a, .ref b] ∧ TI H p us ∧ Us us ∧ TI H a r ∧ TI H b t ∧ r.length = us.length + 1 ∧ t.length = us.length + 1 ∧ ∀ H', Same H H' → Q (.bl (sv us r t)) H'
theorem ok_within (D : Df K mg "within" s_within ["units", "order", "stock"]) (B : Bi mg) (F : Cl P w K mg base 1 "stair_from" ["units", "row"] spStairFrom) (G : Cl P w K mg base 1 "less" ["one", "other"] (spAdd2 subL)) :
    Cl P w K mg base 2 "within" ["units", "order", "stock"] spWithin := by
  refine cl_of D c_within (fun vs H Q E h => ?_) (fun f cdv A outer s H vs Q E hr h => ?_)
  · obtain ⟨p, a, b, us, r, t, rfl, _⟩ := h
    rfl
  obtain ⟨p, a, b, us, r, t, rfl, hp, hu, ha, hb, l1, l2, k⟩ := h
  refine ⟨_, pss_one (ps_ret (pe_cmpR op_ge (pe_callB (cr_minT rfl hr) (by rfl) B.min (by decide +kernel) (pa_cons (pe_cl G hr (by omega) (by rfl) (pa_cons (pe_cl F hr (by omega) (by rfl) (pa_cons (pv 0) (pa_cons (pv 2) pa_nil)))
    (pa_cons (pe_cl F hr (by omega) (by rfl) (pa_cons (pv 0) (pa_cons (pv 1) pa_nil))) pa_nil))) pa_nil)) pe_int (nomark _))), ?_⟩
  have e1 := stair_len l1
  have e2 := stair_len l2
  refine ⟨_, rfl, _, rfl, p, b, us, t, rfl, hp, hu, hb, l2, fun H1 x s1 h1 => ?_⟩
  refine ⟨_, rfl, _, rfl, p, a, us, r, rfl, s1 _ _ hp, hu, s1 _ _ ha, l1, fun H2 y s2 h2 => ?_⟩
  refine ⟨x, y, _, _, rfl, s2 _ _ h1, h2, by omega, by have := hu.1; omega, fun H3 z s3 h3 => ?_⟩
  have l3 := subL_len (stair us t) (stair us r) (by omega)
  refine ⟨z, _, rfl, SqT.of h3, by omega, fun m m1 m2 => ⟨m, 0, rfl, rfl, ?_⟩⟩
  show Q (.bl (decide (0 ≤ m))) H3
  rw [min_le (by omega) m1 m2]
  exact k H3 (s1.trans (s2.trans s3))
def spHigher : Sp := fun vs H Q _ => ∃ (p a b : Addr) (us r t : List Int), vs = [.ref p, .ref a, .ref b] ∧ TI H p us ∧ Us us ∧ TI H a r ∧ TI H b t ∧ r.length = us.length + 1 ∧ t.length = us.length + 1 ∧ ∀ H' q, Same H H' → TI H' q (higher us r t) → Q (.ref q) H'
theorem ok_higher_row (D : Df K mg "higher_row" s_higher_row ["units", "one", "other"]) (B : Bi mg) (F : Cl P w K mg base 1 "stair_from" ["units", "row"] spStairFrom) (G : Cl P w K mg base 1 "row_from" ["units", "stair"] spRowFrom) :
    Cl P w K mg base 2 "higher_row" ["units", "one", "other"] spHigher := by
  refine cl_of D c_higher_row (fun vs H Q E h => ?_) (fun f cdv A outer s H vs Q E hr h => ?_)
  · obtain ⟨p, a, b, us, r, t, rfl, _⟩ := h
    rfl
  obtain ⟨p, a, b, us, r, t, rfl, hp, hu, ha, hb, l1, l2, k⟩ := h
  refine ⟨_, pss_cons (ps_set (i := 3) c_higher_row.nd rfl (.inl rfl) (pe_zipV (by rfl) B.zip (pa_cons (pe_cl F hr (by omega) (by rfl) (pa_cons (pv 0) (pa_cons (pv 1) pa_nil))) (pa_cons (pe_cl F hr (by omega) (by rfl) (pa_cons (pv 0) (pa_cons (pv 2) pa_nil))) pa_nil))))
    (pss_one (ps_ret (pe_cl G hr (by omega) (by rfl) (pa_cons (pv 0) (pa_cons
      (pe_lc (own := [("near", 4), ("far", 5)]) (g := gTup K 2 (gCons (gName 4) (gCons (gName 5) gNil))) (tt := tYes) rfl c_higher_row.nd (pi_zipV (k := 3) rfl (.inl rfl)) (blkOk_by (N := ["units", "one", "other", "pairs", "near", "far"]) (sc := defScope s_higher_row) (by decide +kernel))
        (fun _ _ _ _ _ => pg_tup rfl (pgs_cons (pg_name (i := 4) c_higher_row.nd rfl (.inl rfl)) (pgs_cons (pg_name (i := 5) c_higher_row.nd rfl (.inl rfl)) pgs_nil))) (fun _ _ _ _ _ => pts_nil)
        (fun _ _ _ _ _ => pe_callB (call_max2 rfl) (by rfl) B.max (by decide +kernel) (pa_cons (pv 4) (pa_cons (pv 5) pa_nil)))) pa_nil))))), ?_⟩
  have e1 := stair_len l1
  have e2 := stair_len l2
  have e3 := maxL_len (stair us r) (stair us t) (by omega)
  refine ⟨_, rfl, _, rfl, p, a, us, r, rfl, hp, hu, ha, l1, fun H1 x s1 h1 => ?_⟩
  refine ⟨_, rfl, _, rfl, p, b, us, t, rfl, s1 _ _ hp, hu, s1 _ _ hb, l2, fun H2 y s2 h2 => ?_⟩
  refine ⟨x, y, _, _, rfl, SqT.of (s2 _ _ h1), SqT.of h2, fun z H3 zv => ?_⟩
  have zk : ∀ c o, H2 c = some o → H3 c = some o := by
    obtain ⟨TI', TO, i1, i2, _, _, _, ⟨f1, f2, f3, f4, f5⟩, e⟩ := zv
    intro c o q
    rw [e, upd_ne (ne_of_none q f5), upd_ne (ne_of_none q f4), upd_ne (ne_of_none q f3), upd_ne (ne_of_none q f2), upd_ne (ne_of_none q f1)]
    exact q
  refine ⟨_, rfl, z, x, y, H2, rfl, zv, fun D0 hD => lc_it (walk_zipT (xs := (stair us r).map V.int) (ys := (stair us t).map V.int) (n := us.length + 1) (by rw [List.length_map, List.length_map, e1, e2, Nat.min_self]))
    (fun i G => Same H2 G ∧ G D0 = some (.lst (((maxL (stair us r) (stair us t)).take i).map V.int))) ⟨same_new hD, upd_same⟩ (fun i G _ h => ⟨SqT.of (h.1 _ _ (s2 _ _ h1)), SqT.of (h.1 _ _ h2)⟩) ?_ ?_⟩
  · rintro i v G G' hi ⟨sm, hG⟩ ⟨T, x1, x2, rfl, nT, rfl, q1, q2⟩
    obtain ⟨n1, g1, rfl⟩ := at_int q1
    obtain ⟨n2, g2, rfl⟩ := at_int q2
    refine ⟨T, _, rfl, SqT.of upd_same, rfl, _, _, rfl, _, _, rfl, rfl, rfl, ?_⟩
    refine ⟨_, rfl, _, rfl, n1, n2, rfl, _, (by rw [upd_ne (ne_of_none hG nT)]; exact hG), ?_, same_wr (sm.trans (same_new nT)) hD, ?_⟩
    · rw [List.length_map, List.length_take]
      exact small60 (by have := hu.1; omega)
    · rw [upd_same, take_snoc (maxL_get _ _ i n1 n2 g1 g2), List.map_append]
      rfl
  · rintro G ⟨sm, hG⟩
    rw [List.take_of_length_le (by omega)] at hG
    have s3 := s1.trans (s2.trans sm)
    exact ⟨p, D0, us, _, rfl, s3 _ _ hp, hu, .inr hG, by omega, fun H4 q4 s4 h4 => k H4 q4 (s3.trans s4) h4⟩
end
end SR

namespace SR
open PySem PySem.Spec PyProof.Rows L2 SY
/-! ### a walk over a list or a tuple -/
/-- a holds xs, in a list or a tuple -/
def Hs (H : Hp) (a : Addr) (xs : List V) : Prop := H a = some (.lst xs) ∨ H a = some (.tup xs)
theorem Hs.keep {H H' : Hp} {a : Addr} {xs : List V} (h : Hs H a xs) (s : Same H H') : Hs H' a xs := h.imp (s _ _) (s _ _)
def iSq (tl : TE) : L2.TI := fun σ H R => tl σ H fun x H1 => ∃ a xs, x = .ref a ∧ Hs H1 a xs ∧ ∀ (J : It) (o : HO), H1 a = some o → Walk J xs.length (fun H => H a = some o) (YAt xs) → R J H1
theorem pi_sq {X : Cx} {tg l : Expr} {tl : TE} (hl : PE X l tl) : PI X tg l (iSq tl) := by
  refine ⟨fun pins s σ H R I h => thn (hl.run pins s σ H _ I h) fun v s1 ⟨x, H1, I1, r1, a, xs, ex, hs, q⟩ => ?_⟩
  subst ex
  cases r1
  have lay : ∀ b, b ∈ [s1.heap.objs.size] → FpOk X pins H1 b := fun b hb => by
    rw [List.mem_singleton] at hb
    rw [hb]
    exact I1.fpOk (Nat.le_refl _) (I1.hok.fresh (Nat.le_refl _))
  rcases hs with hq | hq
  · obtain ⟨its, rv, p, hz⟩ := I1.list (SqL.of (K := X.K) hq)
    exact wpAny_pyIter_list p.isList ⟨_, _, _, _, H1, rfl, I1.kept (t' := s1.toks) fun b o e => Heap.get?_push_of_some _ e, turn_list a _, ⟨_, Heap.get?_push_size _ rfl, rfl, rfl⟩, lay,
      q (Itl X.K a) _ hq (walk_list.mono (fun H e => SqL.of e) fun _ _ _ _ _ _ y => y)⟩
  · obtain ⟨its, rv, p, hz⟩ := I1.tuple (SqT.of (K := X.K) hq)
    exact wpAny_pyIter_tuple (show s1.heap.IsTuple a its.toArray from p) ⟨_, _, _, _, H1, rfl, I1.kept (t' := s1.toks) fun b o e => Heap.get?_push_of_some _ e, turn_tuple a _, ⟨_, Heap.get?_push_size _ rfl, rfl, rfl⟩, lay,
      q (Itt X.K a) _ hq (walk_tup.mono (fun H e => SqT.of e) fun _ _ _ _ _ _ y => y)⟩

/-! ### lists and tuples of ints side by side -/
theorem lay_ints : ∀ ns : List Int, PyData.canLayAll0 (ns.map PyData.int) = true ∧ PyData.depthAll (ns.map PyData.int) = 0
  | [] => ⟨rfl, rfl⟩
  | _ :: r => by
    have ih := lay_ints r
    simp [PyData.canLayAll0, PyData.canLay0, PyData.depthAll, PyData.depth, ih.1, ih.2]
theorem shaped_lst (ns : List Int) : SeqAt.shaped (.list (ns.map PyData.int)) = true := by
  simp [SeqAt.shaped, PyData.canLay0, PyData.depth, (lay_ints ns).1, (lay_ints ns).2]
theorem shaped_tup (ns : List Int) : SeqAt.shaped (.tuple (ns.map PyData.int)) = true := by
  simp [SeqAt.shaped, PyData.canLay0, PyData.depth, (lay_ints ns).1, (lay_ints ns).2]
theorem eqv_ints : ∀ ns ms : List Int, PyData.eqvAll (ns.map PyData.int) (ms.map PyData.int) = decide (ns = ms)
  | [], [] => by simp [PyData.eqvAll]
  | [], _ :: _ => by simp [PyData.eqvAll]
  | _ :: _, [] => by simp [PyData.eqvAll]
  | a :: r, b :: t => by
    simp only [List.map_cons, PyData.eqvAll, PyData.eqv, eqv_ints r t]
    by_cases h : a = b <;> by_cases h2 : r = t <;> simp [h, h2]
section
variable {K : PySem.W.Frag} {H : Hp} {a b : Addr} {ns ms : List Int} {Q : VK}
theorem dp_ints : ∀ ns : List Int, DpAll K H (ns.map V.int) (ns.map PyData.int)
  | [] => .nil
  | n :: r => .cons (.int n) (dp_ints r)
theorem eq_lst (h1 : H a = some (.lst (ns.map V.int))) (h2 : H b = some (.lst (ms.map V.int))) (q : Q (.bl (decide (ns = ms))) H) : rEqD K (.ref a) (.ref b) H Q := by
  refine ⟨.list (ns.map PyData.int), .list (ms.map PyData.int), .lst (SqL.of h1) (dp_ints ns), .lst (SqL.of h2) (dp_ints ms), shaped_lst _, shaped_lst _, ?_⟩
  rw [show PyData.eqv (.list (ns.map PyData.int)) (.list (ms.map PyData.int)) = PyData.eqvAll (ns.map PyData.int) (ms.map PyData.int) by simp only [PyData.eqv], eqv_ints]
  exact q
theorem ne_lst (h1 : H a = some (.lst (ns.map V.int))) (h2 : H b = some (.lst (ms.map V.int))) (q : Q (.bl (!decide (ns = ms))) H) : rNeD K (.ref a) (.ref b) H Q := by
  refine ⟨.list (ns.map PyData.int), .list (ms.map PyData.int), .lst (SqL.of h1) (dp_ints ns), .lst (SqL.of h2) (dp_ints ms), shaped_lst _, shaped_lst _, ?_⟩
  rw [show PyData.eqv (.list (ns.map PyData.int)) (.list (ms.map PyData.int)) = PyData.eqvAll (ns.map PyData.int) (ms.map PyData.int) by simp only [PyData.eqv], eqv_ints]
  exact q
theorem eq_tup (h1 : TI H a ns) (h2 : TI H b ms) (q : Q (.bl (decide (ns = ms))) H) : rEqD K (.ref a) (.ref b) H Q := by
  refine ⟨.tuple (ns.map PyData.int), .tuple (ms.map PyData.int), .tup (SqT.of h1) (dp_ints ns), .tup (SqT.of h2) (dp_ints ms), shaped_tup _, shaped_tup _, ?_⟩
  rw [show PyData.eqv (.tuple (ns.map PyData.int)) (.tuple (ms.map PyData.int)) = PyData.eqvAll (ns.map PyData.int) (ms.map PyData.int) by simp only [PyData.eqv], eqv_ints]
  exact q
theorem ne_tup (h1 : TI H a ns) (h2 : TI H b ms) (q : Q (.bl (!decide (ns = ms))) H) : rNeD K (.ref a) (.ref b) H Q := by
  refine ⟨.tuple (ns.map PyData.int), .tuple (ms.map PyData.int), .tup (SqT.of h1) (dp_ints ns), .tup (SqT.of h2) (dp_ints ms), shaped_tup _, shaped_tup _, ?_⟩
  rw [show PyData.eqv (.tuple (ns.map PyData.int)) (.tuple (ms.map PyData.int)) = PyData.eqvAll (ns.map PyData.int) (ms.map PyData.int) by simp only [PyData.eqv], eqv_ints]
  exact q
end
theorem Room.u64 {X : Cx} {k : Nat} (hr : Room k X.A) : X.A.units + 64 < cLine := by
  have := hr.un
  omega
/-! ### the rules within a comprehension, where K is to be named -/
section
variable {X : Cx} (K : PySem.W.Frag) (hK : X.K = K)
include hK
theorem kb_min {k : Nat} (hc : X.calm = true) (hr : Room k X.A) : CallR X (.builtin "min") (rMinT K) := hK ▸ cr_minT hc hr
theorem kb_ix : IxR X (rIxT K) := hK ▸ ix_tup
theorem kb_ixs : IxR X (rIx K) := hK ▸ ix_seq
theorem kb_ixl : IxR X (rIxL K) := hK ▸ ix_list
theorem kb_eqD (hu : X.A.units + 64 < cLine) : OpR X (compareOp .Eq) (rEqD K) := hK ▸ op_eqD hu
theorem kb_neD (hu : X.A.units + 64 < cLine) : OpR X (compareOp .NotEq) (rNeD K) := hK ▸ op_neD hu
theorem kb_ltT (hu : X.A.units < cLine) : OpR X (compareOp .Lt) (rLtT K) := hK ▸ op_ltT hu
theorem kb_catA : OpR X (binaryOp .Add) (rCatA K) := hK ▸ op_catA
theorem kb_isi : CallR X (.builtin "isinstance") (rIsi K) := hK ▸ call_isi
theorem kb_len : CallR X (.builtin "len") (fun xs H Q => ∃ p ys, xs = [.ref p] ∧ (SqL K H p ys ∨ SqT K H p ys) ∧ Q (.int ys.length) H) := hK ▸ call_len_seq
end
/-! ### [1 for ..] -/
def ones (n : Nat) : List Int := List.replicate n 1
theorem ones_snoc (n : Nat) : (ones (n + 1)).map V.int = (ones n).map V.int ++ [.int 1] := by
  unfold ones
  rw [List.replicate_succ', List.map_append]
  rfl
theorem ones_len (n : Nat) : ((ones n).map V.int).length = n := by
  unfold ones
  rw [List.length_map, List.length_replicate]
theorem ones_eq (n : Nat) : decide (ones n = []) = decide (n = 0) := by
  unfold ones
  cases n <;> simp [List.replicate_succ]
theorem countP_snoc {α : Type} {l : List α} {i : Nat} {x : α} (p : α → Bool) (h : l[i]? = some x) : (l.take (i + 1)).countP p = (l.take i).countP p + if p x = true then 1 else 0 := by
  rw [take_snoc h, List.countP_append]
  simp only [List.countP_cons, List.countP_nil, Nat.zero_add]
theorem countP_any {α : Type} (l : List α) (p : α → Bool) : decide (l.countP p = 0) = !l.any p := by
  induction l with
  | nil => rfl
  | cons x xs ih =>
    rw [List.countP_cons, List.any_cons]
    cases q : p x with
    | true => simp [q]
    | false => simpa [q] using ih
end SR

namespace SR
open PySem PySem.Spec PyProof.Rows L2 SY
/-! ### a formula in the heap -/
def wdS : Wd → Str
  | .tog => "together"
  | .any => "any"
  | .one => "one"
mutual
def FA (H : Hp) : Form → V → Prop
  | .row r, v => ∃ p q, v = .ref p ∧ H p = some (.tup [.str "row", .ref q]) ∧ TI H q r
  | .node w fs, v => ∃ p q as, v = .ref p ∧ H p = some (.tup [.str (wdS w), .ref q]) ∧ H q = some (.tup as) ∧ FAs H fs as
def FAs (H : Hp) : List Form → List V → Prop
  | [], as => as = []
  | f :: fs, as => ∃ v vs, as = v :: vs ∧ FA H f v ∧ FAs H fs vs
end
/-- tuples stay -/
def SameT (H H' : Hp) : Prop := ∀ b xs, H b = some (.tup xs) → H' b = some (.tup xs)
theorem tups {H H' : Hp} (s : Same H H') : SameT H H' := fun b xs e => s b _ e
theorem SameT.refl (H : Hp) : SameT H H := fun _ _ e => e
theorem SameT.trans {H H1 H2 : Hp} (s : SameT H H1) (t : SameT H1 H2) : SameT H H2 := fun b xs e => t b xs (s b xs e)
mutual
theorem FA.keep {H H' : Hp} (s : SameT H H') : ∀ (f : Form) (v : V), FA H f v → FA H' f v
  | .row r, v, h => by
    simp only [FA] at h ⊢
    obtain ⟨p, q, e, h1, h2⟩ := h
    exact ⟨p, q, e, s _ _ h1, s _ _ h2⟩
  | .node w fs, v, h => by
    simp only [FA] at h ⊢
    obtain ⟨p, q, as, e, h1, h2, h3⟩ := h
    exact ⟨p, q, as, e, s _ _ h1, s _ _ h2, FAs.keep s fs as h3⟩
theorem FAs.keep {H H' : Hp} (s : SameT H H') : ∀ (fs : List Form) (as : List V), FAs H fs as → FAs H' fs as
  | [], as, h => by simpa only [FAs] using h
  | f :: fs, as, h => by
    simp only [FAs] at h ⊢
    obtain ⟨v, vs, e, h1, h2⟩ := h
    exact ⟨v, vs, e, FA.keep s f v h1, FAs.keep s fs vs h2⟩
end
theorem FAs.len {H : Hp} : ∀ {fs : List Form} {as : List V}, FAs H fs as → as.length = fs.length
  | [], as, h => by
    simp only [FAs] at h
    rw [h]
    rfl
  | f :: fs, as, h => by
    simp only [FAs] at h
    obtain ⟨v, vs, rfl, _, h2⟩ := h
    rw [List.length_cons, List.length_cons, FAs.len h2]
theorem FAs.get {H : Hp} : ∀ {fs : List Form} {as : List V}, FAs H fs as → ∀ {i : Nat} {v : V}, as[i]? = some v → ∃ f, fs[i]? = some f ∧ FA H f v
  | [], as, h, i, v, e => by
    simp only [FAs] at h
    subst h
    simp at e
  | f :: fs, as, h, i, v, e => by
    simp only [FAs] at h
    obtain ⟨x, vs, rfl, h1, h2⟩ := h
    cases i with
    | zero => simp at e; subst e; exact ⟨f, rfl, h1⟩
    | succ i => simp at e; simpa using FAs.get h2 e
theorem FAs.snoc {H : Hp} : ∀ {fs : List Form} {as : List V} {f : Form} {v : V}, FAs H fs as → FA H f v → FAs H (fs ++ [f]) (as ++ [v])
  | [], as, f, v, h, q => by
    simp only [FAs] at h
    subst h
    simp only [List.nil_append, FAs]
    exact ⟨v, [], rfl, q, rfl⟩
  | g :: fs, as, f, v, h, q => by
    simp only [FAs] at h
    obtain ⟨x, vs, rfl, h1, h2⟩ := h
    simp only [List.cons_append, FAs]
    exact ⟨x, vs ++ [v], rfl, h1, FAs.snoc h2 q⟩
/-- its head, whatever it is -/
theorem FA.head {H : Hp} {f : Form} {v : V} (h : FA H f v) : ∃ p q x, v = .ref p ∧ H p = some (.tup [.str x, .ref q]) := by
  cases f with
  | row r =>
    simp only [FA] at h
    obtain ⟨p, q, e, h1, _⟩ := h
    exact ⟨p, q, _, e, h1⟩
  | node w fs =>
    simp only [FA] at h
    obtain ⟨p, q, as, e, h1, _⟩ := h
    exact ⟨p, q, _, e, h1⟩
/-- the words as they are written -/
structure Wr (K : PySem.W.Frag) (mg : Str → Option Value) : Prop where
  ex : ∃ a, mg "WORDS" = some (.ref a) ∧ ∀ H, SqT K H a [.str "together", .str "any", .str "one"]
section
variable {P : Program} {w : World} {K : PySem.W.Frag} {mg : Str → Option Value} {base : Heap}
def spShape : Sp := fun vs H Q _ => ∃ (p : Addr) (v : V) (us : List Int) (f : Form), vs = [.ref p, v] ∧ TI H p us ∧ FA H f v ∧ shp us f = true ∧ Q (.bl true) H
theorem ok_has_formula_shape (D : Df K mg "has_formula_shape" s_has_formula_shape ["units", "value"]) (B : Bi mg) (C : Cn mg) (W : Wr K mg) (F : Cl P w K mg base 2 "is_row" ["units", "value"] spIsRow) :
    Cl P w K mg base 3 "has_formula_shape" ["units", "value"] spShape := by
  refine cl_of D c_has_formula_shape (fun vs H Q E h => ?_) (fun f cdv A outer s H vs Q E hr h => ?_)
  · obtain ⟨p, v, us, f, rfl, _⟩ := h
    rfl
  obtain ⟨p, v, us, fm, rfl, hp, hf, hs, k⟩ := h
  obtain ⟨wa, hw, hwT⟩ := W.ex
  refine ⟨_, (pss_cons (ps_if (PW.pt (pw_or (pt_not (pt_val (pe_callB call_isi (by rfl) B.isi PyProof.Rows.boot_isinstance (pa_cons (pv 1) (pa_cons (pe_bltn (v := .ty "tuple") (by rfl) B.tup (by decide +kernel) rfl) pa_nil))))) (pw_or (pt_cmpR op_ne (pe_callB call_len_seq (by rfl) B.len PySem.boot_len (pa_cons (pv 1) pa_nil)) pe_int (by rfl)) (pw_or1 (pt_not (pt_val (pe_callB call_isi (by rfl) B.isi PyProof.Rows.boot_isinstance (pa_cons (pe_ix ix_tup (pv 1) pe_int (fun _ _ => rfl)) (pa_cons (pe_bltn (v := .ty "str") (by rfl) B.str (by decide +kernel) rfl) pa_nil))))))))) (pss_one (ps_ret pe_bl)) pss_nil) (pss_cons (ps_if (pt_cmpR op_eq (pe_ix ix_tup (pv 1) pe_int (fun _ _ => rfl)) pe_str (by rfl)) (pss_one (ps_ret (pe_cl F hr (by omega) (by rfl) (pa_cons (pv 0) (pa_cons (pe_ix ix_tup (pv 1) pe_int (fun _ _ => rfl)) pa_nil))))) pss_nil) (pss_one (ps_ret (pe_and (pe_cmpR op_in_seq (pe_ix ix_tup (pv 1) pe_int (fun _ _ => rfl)) (pe_glob (v := .ref wa) (by rfl) hw rfl) (by rfl)) (pe_and (pe_callB call_isi (by rfl) B.isi PyProof.Rows.boot_isinstance (pa_cons (pe_ix ix_tup (pv 1) pe_int (fun _ _ => rfl)) (pa_cons (pe_bltn (v := .ty "tuple") (by rfl) B.tup (by decide +kernel) rfl) pa_nil))) (pe_one (pe_cmpR op_le (pe_callB call_len_seq (by rfl) B.len PySem.boot_len (pa_cons (pe_ix ix_tup (pv 1) pe_int (fun _ _ => rfl)) pa_nil)) (pe_cn (by rfl) C.mb) (by rfl))))))))), ?_⟩
  obtain ⟨a, q, x, rfl, ha⟩ := hf.head
  refine ⟨_, rfl, _, _, _, _, true, rfl, .ty "tuple", .base (.tup ha), kit_ty (by decide +kernel), true, rfl, ?_⟩
  refine iteF ⟨_, rfl, a, _, rfl, .inr (SqT.of ha), rfl, _, rfl, iteNS rfl ?_⟩
  refine ⟨_, rfl, a, _, 0, _, rfl, rfl, SqT.of ha, atI_nat (j := 0) rfl, _, _, _, _, true, rfl, .ty "str", .base (.str x), kit_ty (by decide +kernel), true, rfl, iteF ?_⟩
  cases fm with
  | row r =>
    simp only [FA] at hf
    obtain ⟨p2, q2, e, h1, h2⟩ := hf
    injection e with e
    subst e
    cases h1.symm.trans ha
    simp only [shp] at hs
    refine ⟨_, rfl, a, _, 0, _, rfl, rfl, SqT.of ha, atI_nat (j := 0) rfl, rfl, _, rfl, ?_⟩
    exact iteT ⟨_, rfl, _, rfl, a, _, 1, _, rfl, rfl, SqT.of ha, atI_nat (j := 1) rfl, p, q, us, r, rfl, hp, h2, hs, k⟩
  | node wd fs =>
    simp only [FA] at hf
    obtain ⟨p2, q2, as, e, h1, h2, h3⟩ := hf
    injection e with e
    subst e
    cases h1.symm.trans ha
    simp only [shp, Bool.and_eq_true, decide_eq_true_eq] at hs
    refine ⟨_, rfl, a, _, 0, _, rfl, rfl, SqT.of ha, atI_nat (j := 0) rfl, rfl, _, rfl, ?_⟩
    have e1 : decide (V.str (wdS wd) = V.str "row") = false := by cases wd <;> rfl
    rw [e1]
    refine iteF ⟨_, rfl, a, _, 0, _, rfl, rfl, SqT.of ha, atI_nat (j := 0) rfl, wa, _, rfl, .inr (hwT H), rfl, rfl, true, ?_, ?_⟩
    · cases wd <;> rfl
    refine iteT ⟨_, rfl, a, _, 1, _, rfl, rfl, SqT.of ha, atI_nat (j := 1) rfl, _, _, _, _, true, rfl, .ty "tuple", .base (.tup h2), kit_ty (by decide +kernel), true, rfl, iteT ?_⟩
    refine ⟨_, rfl, a, _, 1, _, rfl, rfl, SqT.of ha, atI_nat (j := 1) rfl, q, _, rfl, .inr (SqT.of h2), _, _, rfl, rfl, ?_⟩
    show Q (.bl (decide ((as.length : Int) ≤ 4))) H
    rw [decide_eq_true (by rw [h3.len]; omega)]
    exact k
end
end SR

namespace SR
open PySem PySem.Spec PyProof.Rows L2 SY
section
variable {P : Program} {w : World} {K : PySem.W.Frag} {mg : Str → Option Value} {base : Heap}
def spWalk (n : Nat) : Sp := fun vs H Q _ => ∃ (p path : Addr) (v : V) (met : Int) (us : List Int) (f : Form) (xs : List V) (m : Nat), vs = [.ref p, v, .ref path, .int met] ∧ TI H p us ∧ FA H f v ∧ shp us f = true ∧ dep f ≤ n ∧
  H path = some (.tup xs) ∧ xs.length = 2 * m ∧ m + dep f ≤ 6 ∧ 0 ≤ met ∧ met + cnt f ≤ 20 ∧ ∀ H', Same H H' → Q (.int (met + cnt f)) H'
theorem cnts_snoc : ∀ (fs : List Form) (i : Nat) (f : Form), fs[i]? = some f → cnts (fs.take (i + 1)) = cnts (fs.take i) + cnt f
  | [], i, f, h => by simp at h
  | g :: gs, 0, f, h => by simp at h; subst h; simp [cnts]
  | g :: gs, i + 1, f, h => by
    have := cnts_snoc gs i f (by simpa using h)
    simp only [List.take_succ_cons, cnts, this]
    omega
theorem cnts_take (fs : List Form) (i : Nat) : cnts (fs.take i) ≤ cnts fs := by
  induction fs generalizing i with
  | nil => simp [cnts]
  | cons f fs ih =>
    cases i with
    | zero => simp [cnts]
    | succ i =>
      have := ih i
      simp only [List.take_succ_cons, cnts]
      omega
theorem ok_walk (D : Df K mg "formula_walked" s_formula_walked ["units", "value", "path", "met"]) (B : Bi mg) (C : Cn mg) (F : Cl P w K mg base 3 "has_formula_shape" ["units", "value"] spShape) :
    ∀ n : Nat, Cl P w K mg base (n + 4) "formula_walked" ["units", "value", "path", "met"] (spWalk n)
  | 0 => by
    refine cl_of D c_formula_walked (fun vs H Q E h => ?_) (fun f cdv A outer s H vs Q E hr h => ?_)
    · obtain ⟨p, path, v, met, us, f, xs, m, rfl, _⟩ := h
      rfl
    · obtain ⟨p, path, v, met, us, f, xs, m, rfl, _, _, _, hd, _⟩ := h
      have := dep_pos f
      omega
  | n + 1 => by
    have G := ok_walk D B C F n
    refine cl_of D c_formula_walked (fun vs H Q E h => ?_) (fun f cdv A outer s H vs Q E hr h => ?_)
    · obtain ⟨p, path, v, met, us, f, xs, m, rfl, _⟩ := h
      rfl
    obtain ⟨p, path, v, met, us, fm, xs, m, rfl, hp, hf, hs, hd, hx, hxl, hm, h0, hc, k⟩ := h
    refine ⟨_, (pss_cons (ps_if (pt_cmpR op_ge (pe_op op_fdiv (pe_callB call_len_seq (by rfl) B.len PySem.boot_len (pa_cons (pv 2) pa_nil)) pe_int) (pe_cn (by rfl) C.md) (by rfl)) (pss_one ps_never) pss_nil) (pss_cons (ps_if (pt_cmpR op_eq (pv 3) (pe_cn (by rfl) C.mq) (by rfl)) (pss_one ps_never) pss_nil) (pss_cons (ps_if (pt_not (pt_val (pe_cl F hr (by omega) (by rfl) (pa_cons (pv 0) (pa_cons (pv 1) pa_nil))))) (pss_one ps_never) pss_nil) (pss_cons (ps_set (i := 4) c_formula_walked.nd rfl (by first | exact .inl rfl | exact .inr rfl) (pe_op op_add (pv 3) pe_int)) (pss_cons (ps_if (pt_cmpR op_ne (pe_ix ix_tup (pv 1) pe_int (fun _ _ => rfl)) pe_str (by rfl)) (pss_one (ps_for PassesOwn.never rfl (pi_enumT (by rfl) B.enum (pa_cons (pe_ix ix_tup (pv 1) pe_int (fun _ _ => rfl)) pa_nil)) (pg_tup rfl (pgs_cons (pg_name (i := 5) c_formula_walked.nd rfl (by first | exact .inl rfl | exact .inr rfl)) (pgs_cons (pg_name (i := 6) c_formula_walked.nd rfl (by first | exact .inl rfl | exact .inr rfl)) pgs_nil))) (pss_one (ps_set (i := 4) c_formula_walked.nd rfl (by first | exact .inl rfl | exact .inr rfl) (pe_cl G hr (by omega) (by rfl) (pa_cons (pv 0) (pa_cons (pv 6) (pa_cons (pe_op op_catA (pv 2) (pe_tup (pa_cons pe_int (pa_cons (pv 5) pa_nil)))) (pa_cons (pv 4) pa_nil))))))))) pss_nil) (pss_one (ps_ret (pv 4)))))))), ?_⟩
    have dp := dep_pos fm
    have cp := cnt_pos fm
    refine ⟨_, rfl, path, _, rfl, .inr (SqT.of hx), _, _, rfl, rfl, ⟨by omega, by omega⟩, _, _, rfl, rfl, _, rfl, ?_⟩
    rw [decide_eq_false (by rw [hxl]; omega)]
    refine iteF ⟨_, rfl, rfl, _, rfl, ?_⟩
    rw [decide_eq_false (fun e => by injection e with e; omega)]
    refine iteF ⟨_, rfl, _, rfl, p, v, us, fm, rfl, hp, hf, hs, true, rfl, iteF ?_⟩
    refine ⟨_, rfl, _, _, rfl, rfl, ?_⟩
    cases fm with
    | row r =>
      simp only [FA] at hf
      obtain ⟨a, q, rfl, h1, h2⟩ := hf
      refine ⟨_, rfl, a, _, 0, _, rfl, rfl, SqT.of h1, atI_nat (j := 0) rfl, rfl, _, rfl, iteNS rfl ⟨_, rfl, ?_⟩⟩
      have e : met + (cnt (.row r) : Int) = met + 1 := by simp [SY.cnt]
      rw [e] at k
      exact k H (Same.refl H)
    | node wd fs =>
      simp only [FA] at hf
      obtain ⟨a, q, as, rfl, h1, h2, h3⟩ := hf
      simp only [shp, Bool.and_eq_true, decide_eq_true_eq] at hs
      simp only [dep] at hd hm
      simp only [SY.cnt] at hc
      refine ⟨_, rfl, a, _, 0, _, rfl, rfl, SqT.of h1, atI_nat (j := 0) rfl, rfl, _, rfl, ?_⟩
      have e1 : decide (V.str (wdS wd) = V.str "row") = false := by cases wd <;> rfl
      rw [e1]
      refine ⟨_, rfl, a, _, 1, _, rfl, rfl, SqT.of h1, atI_nat (j := 1) rfl, q, as, rfl, SqT.of h2, ?_⟩
      have las := h3.len
      refine for_it (walk_enumT (xs := as)) (fun i σ G => Same H G ∧ ∃ y z, σ = [some (.ref p), some (.ref a), some (.ref path), some (.int met), some (.int (met + 1 + cnts (fs.take i))), y, z])
        ⟨Same.refl H, none, none, by simp [cnts]; rfl⟩ (fun i σ G _ h => SqT.of (h.1 _ _ h2)) ?_ ?_
      · rintro i x σ G G' hi ⟨sm, y, z, rfl⟩ ⟨T, x1, x2, rfl, nT, rfl, e1, e2⟩
        cases e1
        obtain ⟨g, hg, fg⟩ := h3.get e2
        have gm := List.mem_of_getElem? hg
        have c1 := cnts_snoc fs i g hg
        have c2 := cnts_take fs (i + 1)
        have d1 := deps_mem fs g gm
        have sm2 := sm.trans (same_new (o := .tup [V.int (i : Nat), x2]) nT)
        refine ⟨T, _, rfl, SqT.of upd_same, rfl, _, _, rfl, _, _, rfl, rfl, ?_⟩
        have nx : ∀ (pa : Addr) (G3 : Hp) (Q' : VK), Same H G3 → G3 pa = some (.tup (xs ++ [V.int 1, V.int (i : Nat)])) → (∀ G4, Same G3 G4 → Q' (.int (met + 1 + cnts (fs.take (i + 1)))) G4) → spWalk n [.ref p, x2, .ref pa, .int (met + 1 + cnts (fs.take i))] G3 Q' E0 := fun pa G3 Q' s3 hpa q' =>
          ⟨p, pa, x2, _, us, g, _, m + 1, rfl, s3 _ _ hp, FA.keep (tups s3) g x2 fg, shps_mem us fs hs.2 g gm, by omega, hpa, by rw [List.length_append, hxl]; rfl, by omega, by omega, by omega, fun G4 s4 => by
            have e : met + 1 + (cnts (fs.take i) : Int) + SY.cnt g = met + 1 + cnts (fs.take (i + 1)) := by rw [c1]; omega
            rw [e]
            exact q' G4 s4⟩
        refine ⟨_, rfl, _, rfl, _, rfl, _, rfl, by show 2 ≤ sizeLine; decide, fun u hu => ?_⟩
        have sm3 := sm2.trans (same_new (o := .tup [V.int 1, V.int (i : Nat)]) hu)
        refine ⟨path, u, xs, _, rfl, rfl, SqT.of (sm3 _ _ hx), SqT.of upd_same, ?_, fun e => ?_, fun _ e => (by cases e), fun _ _ v hv => ?_⟩
        · rw [hxl]
          exact Nat.le_of_lt (small60 (by show 2 * m + 2 ≤ _; omega))
        · subst e
          refine ⟨_, rfl, ?_⟩
          unfold tNil
          show spWalk n _ _ _ _
          exact nx u _ _ sm3 upd_same fun G4 s4 => ⟨sm3.trans s4, _, _, rfl⟩
        · have sm4 := sm3.trans (same_new (o := .tup (xs ++ [V.int 1, V.int (i : Nat)])) hv)
          refine ⟨_, rfl, ?_⟩
          unfold tNil
          show spWalk n _ _ _ _
          exact nx v _ _ sm4 upd_same fun G4 s4 => ⟨sm4.trans s4, _, _, rfl⟩
      · rintro σ G ⟨sm, y, z, rfl⟩
        refine ⟨_, rfl, ?_⟩
        have e : met + (cnt (.node wd fs) : Int) = met + 1 + cnts (fs.take as.length) := by
          rw [las, List.take_length]
          simp only [SY.cnt]
          omega
        rw [e] at k
        exact k G sm
def spNeedFormula : Sp := fun vs H Q _ => ∃ (p : Addr) (v : V) (us : List Int) (f : Form), vs = [.ref p, v] ∧ TI H p us ∧ Us us ∧ FA H f v ∧ shp us f = true ∧ SY.cnt f ≤ 20 ∧ dep f ≤ 6 ∧ ∀ H', Same H H' → Q v H'
theorem ok_need_formula (D : Df K mg "need_formula" s_need_formula ["units", "value"]) (F : Cl P w K mg base 2 "need_units" ["value"] spNeedUnits) (G : Cl P w K mg base 10 "formula_walked" ["units", "value", "path", "met"] (spWalk 6)) :
    Cl P w K mg base 11 "need_formula" ["units", "value"] spNeedFormula := by
  refine cl_of D c_need_formula (fun vs H Q E h => ?_) (fun f cdv A outer s H vs Q E hr h => ?_)
  · obtain ⟨p, v, us, f, rfl, _⟩ := h
    rfl
  obtain ⟨p, v, us, fm, rfl, hp, hu, hf, hs, hc, hd, k⟩ := h
  refine ⟨_, (pss_cons (ps_expr (pe_cl F hr (by omega) (by rfl) (pa_cons (pv 0) pa_nil))) (pss_cons (ps_expr (pe_cl G hr (by omega) (by rfl) (pa_cons (pv 0) (pa_cons (pv 1) (pa_cons (pe_tup pa_nil) (pa_cons pe_int pa_nil)))))) (pss_one (ps_ret (pv 1))))), ?_⟩
  refine ⟨_, rfl, p, us, rfl, hp, hu, _, rfl, _, rfl, by show 0 ≤ sizeLine; decide, fun u hu' => ?_⟩
  have sm := same_new (o := .tup []) hu'
  exact ⟨p, u, v, 0, us, fm, [], 0, rfl, sm _ _ hp, FA.keep (tups sm) fm v hf, hs, hd, upd_same, rfl, by omega, by omega, by omega, fun H2 s2 => ⟨_, rfl, k H2 (sm.trans s2)⟩⟩
end
end SR

namespace SR
open PySem PySem.Spec PyProof.Rows L2 SY
/-! ### rows in the heap, sorted -/
def rowAt (H : Hp) (a : Addr) : List Int := match H a with
  | some (.tup xs) => xs.map fun x => match x with
    | .int n => n
    | _ => 0
  | _ => []
theorem rowAt_of {H : Hp} {a : Addr} {r : List Int} (h : TI H a r) : rowAt H a = r := by
  unfold rowAt
  rw [show H a = some (.tup (r.map V.int)) from h]
  simp only [List.map_map]
  conv => rhs; rw [← List.map_id r]
  exact List.map_congr_left fun x _ => rfl
theorem Rows.map {H : Hp} {as : List Addr} {L : List (List Int)} (R : Rows H as L) : L = as.map (rowAt H) := by
  refine List.ext_getElem? fun i => ?_
  rw [List.getElem?_map]
  cases q : as[i]? with
  | none =>
    have := R.len
    rw [List.getElem?_eq_none_iff] at q
    rw [Option.map_none, List.getElem?_eq_none_iff]
    omega
  | some a =>
    obtain ⟨r, h1, h2⟩ := R.get q
    rw [h1, Option.map_some, rowAt_of h2]
theorem Rows.of_all {H : Hp} {as : List Addr} (h : ∀ a ∈ as, TI H a (rowAt H a)) : Rows H as (as.map (rowAt H)) := by
  refine ⟨by rw [List.length_map], fun i a r h1 h2 => ?_⟩
  rw [List.getElem?_map, h1] at h2
  cases h2
  exact h a (List.mem_of_getElem? h1)
theorem Rows.mem {H : Hp} {as : List Addr} {L : List (List Int)} (R : Rows H as L) {a : Addr} (h : a ∈ as) : rowAt H a ∈ L ∧ TI H a (rowAt H a) := by
  obtain ⟨i, hi⟩ := List.getElem?_of_mem h
  obtain ⟨r, h1, h2⟩ := R.get hi
  rw [rowAt_of h2]
  exact ⟨List.mem_of_getElem? h1, h2⟩
theorem code_lex {B : Int} : ∀ a b : List Int, a.length = b.length → TS.Bd B a → TS.Bd B b → lexLt a b = true → TS.code B a < TS.code B b
  | [], [], _, _, _, h => by simp [SY.lexLt] at h
  | x :: xs, y :: ys, hl, ha, hb, h => by
    simp only [List.length_cons, Nat.add_right_cancel_iff] at hl
    simp only [SY.lexLt] at h
    by_cases e : x = y
    · subst e
      rw [if_pos rfl] at h
      exact (TS.code_same hl).mpr (code_lex xs ys hl ha.tail hb.tail h)
    · rw [if_neg e, decide_eq_true_eq] at h
      exact TS.code_lt hl ha.tail hb.tail h
theorem refs_of {ys : List V} {ss : List Addr} (hp : ys.Perm (ss.map V.ref)) : ∃ ts : List Addr, ys = ts.map V.ref ∧ ts.Perm ss := by
  let un : V → Addr := fun v => match v with
    | .ref a => a
    | _ => 0
  have e : ys = (ys.map un).map V.ref := by
    rw [List.map_map]
    conv => lhs; rw [← List.map_id ys]
    refine List.map_congr_left fun y hy => ?_
    obtain ⟨a, _, q⟩ := List.mem_map.mp (hp.mem_iff.mp hy)
    subst q
    rfl
  refine ⟨ys.map un, e, ?_⟩
  have := hp.map un
  rw [List.map_map] at this
  have e2 : ss.map (un ∘ V.ref) = ss := by
    conv => rhs; rw [← List.map_id ss]
    exact List.map_congr_left fun x _ => rfl
  rw [e2] at this
  exact this
theorem sorted_rows {K : PySem.W.Frag} {H : Hp} {ss : List Addr} {M : List (List Int)} {d : Nat} {B : Int} (R : Rows H ss M) (hd : ∀ m ∈ M, m.length = d ∧ TS.Bd B m) {ys : List V} (hp : ys.Perm (ss.map V.ref))
    (hs : ys.Pairwise (fun x y => ∀ n m, TupI K H x n → TupI K H y m → TS.code B n ≤ TS.code B m)) : ∃ ts : List Addr, ys = ts.map V.ref ∧ Rows H ts (isort M) := by
  obtain ⟨ts, rfl, ht⟩ := refs_of hp
  have all : ∀ a ∈ ts, rowAt H a ∈ M ∧ TI H a (rowAt H a) := fun a ha => R.mem (ht.mem_iff.mp ha)
  have R2 := Rows.of_all fun a ha => (all a ha).2
  refine ⟨ts, rfl, ?_⟩
  have e : ts.map (rowAt H) = isort M := by
    refine isort_eq ?_ ?_
    · rw [R.map]
      exact ht.map _
    · unfold Up
      rw [List.pairwise_map] at hs ⊢
      refine (List.pairwise_iff_forall_sublist.mpr fun {a b} hab => ?_)
      have h1 := List.pairwise_iff_forall_sublist.mp hs hab
      have ma : a ∈ ts := hab.subset (by simp)
      have mb : b ∈ ts := hab.subset (by simp)
      obtain ⟨ia, ta⟩ := all a ma
      obtain ⟨ib, tb⟩ := all b mb
      have h2 := h1 _ _ ⟨a, rfl, SqT.of ta⟩ ⟨b, rfl, SqT.of tb⟩
      cases q : lexLt (rowAt H b) (rowAt H a) with
      | false => rfl
      | true =>
        have := code_lex _ _ (by rw [(hd _ ia).1, (hd _ ib).1]) (hd _ ib).2 (hd _ ia).2 q
        omega
  rw [← e]
  exact R2
/-! ### the kept ones, from the left -/
theorem keep_append : ∀ (a b kept : List (List Int)), keepL kept (a ++ b) = keepL (keepL kept a) b
  | [], _, _ => rfl
  | s :: ss, b, kept => by
    simp only [List.cons_append, keepL]
    split
    · exact keep_append ss b kept
    · exact keep_append ss b _
theorem keep_snoc (kept l : List (List Int)) (s : List Int) : keepL kept (l ++ [s]) = if (keepL kept l).any (fun o => leB o s) then keepL kept l else keepL kept l ++ [s] := by
  rw [keep_append]
  simp only [keepL]
theorem keep_grows : ∀ (l kept : List (List Int)), kept.length ≤ (keepL kept l).length
  | [], _ => Nat.le_refl _
  | s :: ss, kept => by
    simp only [keepL]
    split
    · exact keep_grows ss kept
    · have := keep_grows ss (kept ++ [s])
      rw [List.length_append] at this
      simp only [List.length_cons, List.length_nil] at this
      omega
theorem keep_part (l : List (List Int)) (i : Nat) : (keepL [] (l.take i)).length ≤ (keepL [] l).length := by
  conv => rhs; rw [← List.take_append_drop i l, keep_append]
  exact keep_grows _ _
/-! ### a comprehension of rows out of rows -/
theorem lc_rows {J : It} {a : Addr} {o : HO} {as : List Addr} {L M : List (List Int)} {H : Hp} (w : Walk J (as.map V.ref).length (fun H => H a = some o) (YAt (as.map V.ref))) (ha : H a = some o) (R : Rows H as L) (hM : M.length = L.length) (hz : L.length ≤ 1000000)
    {D : Addr} (hD : H D = none) {te : TE} {σ : L2.St} {vs : List Nat} {i : Nat} {Qd : Hp → Prop} (wp : ∀ x, wipe ((wipe σ vs).set i x) vs = wipe σ vs)
    (step : ∀ (j : Nat) (b : Addr) (r m : List Int) (G : Hp) (Q' : VK), L[j]? = some r → M[j]? = some m → Same H G → TI G b r → (∀ G' t, Same G G' → TI G' t m → Q' (.ref t) G') → te ((wipe σ vs).set i (some (.ref b))) G Q')
    (done : ∀ G ss, Same H G → G D = some (.lst (ss.map V.ref)) → Rows G ss M → Qd G) :
    ∃ W : Nat → Nat → Hp → Prop, (∃ m, W 0 m (upd H D (.lst []))) ∧ ∀ i' m H, W i' m H →
      (J.stop i' H ∧ Qd H) ∨ (J.go i' H ∧ ∃ Nx : Hp → Prop, (∀ H', Nx H' → ∃ m', m' < m ∧ W (i' + 1) m' H') ∧ ∀ x H', J.yld i' H x H' → gName i x (wipe σ vs) H' fun σ2 H2 => wipe σ2 vs = wipe σ vs ∧ tYes σ2 H2 fun b H3 =>
        if b = true then te σ2 H3 fun y H4 => ∃ acc, H4 D = some (.lst acc) ∧ acc.length < sizeLine ∧ Nx (upd H4 D (.lst (acc ++ [y]))) else Nx H3) := by
  refine lc_it w (fun j G => Same H G ∧ ∃ ss : List Addr, G D = some (.lst (ss.map V.ref)) ∧ Rows G ss (M.take j)) ⟨same_new hD, [], upd_same, .nil⟩ (fun j G _ h => h.1 _ _ ha) ?_ ?_
  · rintro j x G G' hj ⟨sm, ss, hG, RG⟩ ⟨rfl, hx⟩
    obtain ⟨b, hb, rfl⟩ := at_ref hx
    obtain ⟨r, hr, tr⟩ := R.get hb
    have hjl : j < M.length := by
      have := (List.getElem?_eq_some_iff.mp hr).1
      omega
    have hm : M[j]? = some M[j] := List.getElem?_eq_getElem hjl
    refine ⟨wp _, ?_⟩
    show te _ _ _
    refine step j b r M[j] G' _ hr hm sm (sm _ _ tr) fun G2 t s2 ht => ?_
    have h2 := s2 _ _ hG
    refine ⟨_, h2, ?_, same_wr (sm.trans s2) hD, ss ++ [t], by rw [upd_same, List.map_append]; rfl, ?_⟩
    · rw [List.length_map, RG.len, List.length_take]
      exact small60 (by omega)
    · rw [take_snoc hm]
      have k : ∀ b xs, G2 b = some (.tup xs) → upd G2 D (.lst (ss.map V.ref ++ [V.ref t])) b = some (.tup xs) := fun b xs e => by
        rw [upd_ne (fun q => by rw [q, h2] at e; cases e)]
        exact e
      exact ((RG.keep (tups s2)).keep k).snoc (k _ _ ht)
  · rintro G ⟨sm, ss, hG, RG⟩
    refine done G ss sm hG ?_
    have e : (as.map V.ref).length = M.length := by rw [List.length_map, R.len, hM]
    rw [e, List.take_length] at RG
    exact RG
end SR

namespace SR
open PySem PySem.Spec PyProof.Rows L2 SY
section
variable {P : Program} {w : World} {K : PySem.W.Frag} {mg : Str → Option Value} {base : Heap}
def spLeast : Sp := fun vs H Q _ => ∃ (p q : Addr) (us : List Int) (as : List Addr) (L : List (List Int)), vs = [.ref p, .ref q] ∧ TI H p us ∧ Us us ∧ Hs H q (as.map V.ref) ∧ Rows H as L ∧ okK us L = true ∧
  ∀ H' t bs, Same H H' → H' t = some (.tup (bs.map V.ref)) → Rows H' bs (leastKept us L) → Q (.ref t) H'
theorem stair_ok {us r : List Int} (hu : Us us) (hv : VR us r) (ht : tot us r < BB) : (stair us r).length = us.length + 1 ∧ TS.Bd BB (stair us r) :=
  ⟨stair_len hv.1, fun m hm => ⟨stair_nonneg hu.pos hv.2 m hm, by have := stair_le hu.pos hv.2 hv.1 m hm; omega⟩⟩
theorem row_ok {us r : List Int} (hu : Us us) (hv : VR us r) (ht : tot us r < BB) : r.length = us.length + 1 ∧ TS.Bd BB r :=
  ⟨hv.1, fun m hm => ⟨hv.2 m hm, by have := row_le_tot hu.pos hv.2 hv.1 m hm; omega⟩⟩
theorem ok_least_kept (D : Df K mg "least_kept" s_least_kept ["units", "rows"]) (B : Bi mg) (C : Cn mg) (F_stair_from : Cl P w K mg base 1 "stair_from" ["units", "row"] spStairFrom) (F_row_from : Cl P w K mg base 1 "row_from" ["units", "stair"] spRowFrom) (F_less : Cl P w K mg base 1 "less" ["one", "other"] (spAdd2 subL)) :
    Cl P w K mg base 2 "least_kept" ["units", "rows"] spLeast := by
  refine cl_of D c_least_kept (fun vs H Q E h => ?_) (fun f cdv A outer s H vs Q E hr h => ?_)
  · obtain ⟨p, q, us, as, L, rfl, _⟩ := h
    rfl
  obtain ⟨p, q, us, as, L, rfl, hp, hu, hq, R, hok, k⟩ := h
  unfold okK at hok
  rw [Bool.and_eq_true, Bool.and_eq_true, decide_eq_true_eq, decide_eq_true_eq, List.all_eq_true] at hok
  obtain ⟨⟨h64, h40⟩, hall⟩ := hok
  have hv : ∀ r ∈ L, VR us r ∧ tot us r < BB := fun r hr => by
    have := hall r hr
    rw [Bool.and_eq_true, decide_eq_true_eq] at this
    exact ⟨vrB_iff.mp this.1, this.2⟩
  refine ⟨_, (pss_cons (ps_set (i := 2) c_least_kept.nd rfl (by first | exact .inl rfl | exact .inr rfl) (pe_lst pa_nil)) (pss_cons (ps_for PassesOwn.never rfl (pi_list (pe_callB (cr_sortT (d := us.length + 1) (B := BB) (by omega)) (by rfl) B.srt (by decide +kernel) (pa_cons (pe_lc (own := [("row", 4)]) (g := (gName 4)) (tt := tYes) rfl c_least_kept.nd (pi_sq (pv 1)) (blkOk_by (N := ["units", "rows", "kept", "stair", "row", "other"]) (sc := defScope s_least_kept) (by decide +kernel)) (fun _ _ _ _ _ => (pg_name (i := 4) c_least_kept.nd rfl (by first | exact .inl rfl | exact .inr rfl))) (fun _ _ _ _ _ => pts_nil) (fun _ _ _ _ _ => (pe_cl F_stair_from hr (by omega) (by rfl) (pa_cons (pv 0) (pa_cons (pv 4) pa_nil))))) pa_nil))) (pg_name (i := 3) c_least_kept.nd rfl (by first | exact .inl rfl | exact .inr rfl)) (pss_one (ps_if (pt_cmpR (op_eqD (Room.u64 hr)) (pe_lc (own := [("other", 5)]) (g := (gName 5)) rfl c_least_kept.nd (pi_list (pv 2)) (blkOk_by (N := ["units", "rows", "kept", "stair", "row", "other"]) (sc := defScope s_least_kept) (by decide +kernel)) (fun _ _ _ _ _ => (pg_name (i := 5) c_least_kept.nd rfl (by first | exact .inl rfl | exact .inr rfl))) (fun _ _ _ _ _ => pts_one (pt_cmpR op_ge (pe_callB (kb_min K rfl rfl hr) (by rfl) B.min (by decide +kernel) (pa_cons (pe_cl F_less hr (by omega) (by rfl) (pa_cons (pv 3) (pa_cons (pv 5) pa_nil))) pa_nil)) pe_int (by rfl))) (fun _ _ _ _ _ => pe_int)) (pe_lst pa_nil) (by rfl)) (pss_cons (ps_if (pt_cmpR op_eq (pe_callB call_len_seq (by rfl) B.len PySem.boot_len (pa_cons (pv 2) pa_nil)) (pe_cn (by rfl) C.ml) (by rfl)) (pss_one ps_never) pss_nil) (pss_one (ps_expr (pe_bm PySem.F.plainAttrs_list PySem.F.slot_list_append PySem.F.type_list_append mt_append (pv 2) (pa_cons (pv 3) pa_nil))))) pss_nil))) (pss_one (ps_ret (pe_callTy call_tuple_of (by rfl) B.tup (by decide +kernel) (pa_cons (pe_callB (cr_sortT (d := us.length + 1) (B := BB) (by omega)) (by rfl) B.srt (by decide +kernel) (pa_cons (pe_lc (own := [("stair", 3)]) (g := (gName 3)) (tt := tYes) rfl c_least_kept.nd (pi_list (pv 2)) (blkOk_by (N := ["units", "rows", "kept", "stair", "row", "other"]) (sc := defScope s_least_kept) (by decide +kernel)) (fun _ _ _ _ _ => (pg_name (i := 3) c_least_kept.nd rfl (by first | exact .inl rfl | exact .inr rfl))) (fun _ _ _ _ _ => pts_nil) (fun _ _ _ _ _ => (pe_cl F_row_from hr (by omega) (by rfl) (pa_cons (pv 0) (pa_cons (pv 3) pa_nil))))) pa_nil)) pa_nil)))))), ?_⟩
  refine ⟨by show 0 ≤ sizeLine; decide, fun o ho => ?_⟩
  have s1 : Same H (upd H o (.lst [])) := same_new ho
  refine ⟨_, rfl, q, as.map V.ref, rfl, hq.keep s1, fun J oo hJ wk D0 hD => lc_rows (M := L.map (stair us)) wk hJ (R.keep (tups s1)) (by rw [List.length_map]) (by omega) hD (fun _ => rfl) ?_ ?_⟩
  · intro j b r m G Q' h1 h2 sm tb k'
    rw [List.getElem?_map, h1] at h2
    cases h2
    refine ⟨_, rfl, _, rfl, p, b, us, r, rfl, sm _ _ (s1 _ _ hp), hu, tb, (hv r (List.mem_of_getElem? h1)).1.1, fun G' t s ht => k' G' t s ht⟩
  intro G ss sm hG RG
  have hM : ∀ m ∈ L.map (stair us), m.length = us.length + 1 ∧ TS.Bd BB m := fun m hm => by
    obtain ⟨r, hr', rfl⟩ := List.mem_map.mp hm
    exact stair_ok hu (hv r hr').1 (hv r hr').2
  have ls : ss.length = L.length := by rw [RG.len, List.length_map]
  refine ⟨D0, ss.map V.ref, rfl, SqL.of hG, by rw [List.length_map]; omega, fun x hx => ?_, fun ys sp hperm hsort hn => ?_⟩
  · obtain ⟨a, ha, rfl⟩ := List.mem_map.mp hx
    have := RG.mem ha
    exact ⟨_, ⟨a, rfl, SqT.of this.2⟩, hM _ this.1⟩
  obtain ⟨ts, rfl, RT⟩ := sorted_rows RG hM hperm hsort
  have sG : Same H G := s1.trans sm
  have hoG : G o = some (.lst []) := sm _ _ upd_same
  have nso : sp ≠ o := fun e => by rw [e, hoG] at hn; cases hn
  have s3 : Same G (upd G sp (.lst (ts.map V.ref))) := same_new hn
  refine ⟨sp, rfl, ⟨_, SqL.of upd_same⟩, ?_⟩
  refine for_list (xs := ts.map V.ref) (fun i σ G2 => Same H G2 ∧ G2 sp = some (.lst (ts.map V.ref)) ∧ Rows G2 ts (isort (L.map (stair us))) ∧ (∃ ks : List Addr, G2 o = some (.lst (ks.map V.ref)) ∧ Rows G2 ks (keepL [] ((isort (L.map (stair us))).take i))) ∧ ∃ y z1 z2, σ = [some (.ref p), some (.ref q), some (.ref o), y, z1, z2])
    ⟨sG.trans s3, upd_same, RT.keep (tups s3), ⟨[], s3 _ _ hoG, .nil⟩, none, none, none, rfl⟩ (fun i σ G2 _ h => SqL.of h.2.1) ?_ ?_
  · rintro i x σ G2 hx ⟨sm2, hsp, RT2, ⟨ks, hk, RK⟩, y, z1, z2, rfl⟩
    obtain ⟨b, hb, rfl⟩ := at_ref hx
    obtain ⟨sr, hsr, tb⟩ := RT2.get hb
    have hsl : sr.length = us.length + 1 := (hM sr ((isort_perm _).mem_iff.mp (List.mem_of_getElem? hsr))).1
    have hkl : ∀ m ∈ keepL [] ((isort (L.map (stair us))).take i), m.length = us.length + 1 := fun m hm => by
      rcases keep_mem _ _ _ hm with h | h
      · cases h
      · exact (hM m ((isort_perm _).mem_iff.mp (List.mem_of_mem_take h))).1
    have hus := hu.1
    refine ⟨_, rfl, o, rfl, ⟨_, SqL.of hk⟩, fun D1 hD1 => lc_it (walk_list (xs := ks.map V.ref)) (fun j G4 => Same G2 G4 ∧ G4 D1 = some (.lst ((ones (((keepL [] ((isort (L.map (stair us))).take i)).take j).countP fun o' => leB o' sr)).map V.int)))
      ⟨same_new hD1, upd_same⟩ (fun j G4 _ h => SqL.of (h.1 _ _ hk)) ?_ ?_⟩
    · rintro j x G4 G5 hj ⟨sm4, hG4⟩ ⟨rfl, hxj⟩
      obtain ⟨c, hc, rfl⟩ := at_ref hxj
      obtain ⟨cr, hcr, tc⟩ := RK.get hc
      have hcl := hkl cr (List.mem_of_getElem? hcr)
      refine ⟨rfl, _, rfl, _, rfl, b, c, sr, cr, rfl, sm4 _ _ tb, sm4 _ _ tc, by omega, by omega, fun G6 z s6 h6 => ?_⟩
      have lsub := subL_len sr cr (by omega)
      refine ⟨z, _, rfl, SqT.of h6, by omega, fun m m1 m2 => ⟨m, 0, rfl, rfl, _, rfl, ?_⟩⟩
      rw [min_le (by omega) m1 m2]
      have cs := countP_snoc (fun o' => leB o' sr) hcr
      cases ql : leB cr sr with
      | false =>
        refine iteF ⟨sm4.trans s6, ?_⟩
        rw [cs, ql]
        exact s6 _ _ hG4
      | true =>
        refine iteT ⟨_, s6 _ _ hG4, ?_, same_wr (sm4.trans s6) hD1, ?_⟩
        · rw [ones_len]
          refine small60 (Nat.le_trans List.countP_le_length ?_)
          rw [List.length_take]
          have := keep_part (isort (L.map (stair us))) i
          omega
        · rw [upd_same, cs, ql]
          exact congrArg (fun l => some (HO.lst l)) (ones_snoc _).symm
    rintro G4 ⟨sm4, hG4⟩
    rw [show (ks.map V.ref).length = (keepL [] ((isort (L.map (stair us))).take i)).length by rw [List.length_map, RK.len], List.take_length] at hG4
    refine ⟨by show 0 ≤ sizeLine; decide, fun e he => ?_⟩
    have s5 := sm4.trans (same_new (o := .lst []) he)
    refine eq_lst (ms := []) (same_new he _ _ hG4) upd_same ⟨_, rfl, ?_⟩
    rw [ones_eq, countP_any]
    have kp := keep_snoc [] ((isort (L.map (stair us))).take i) sr
    rw [← take_snoc hsr] at kp
    cases ql : (keepL [] ((isort (L.map (stair us))).take i)).any (fun o' => leB o' sr) with
    | true =>
      rw [ql, if_pos rfl] at kp
      refine iteF ?_
      exact ⟨sm2.trans s5, s5 _ _ hsp, RT2.keep (tups s5), ⟨ks, s5 _ _ hk, by rw [kp]; exact RK.keep (tups s5)⟩, _, _, _, rfl⟩
    | false =>
      rw [ql, if_neg Bool.false_ne_true] at kp
      have kl := keep_part (isort (L.map (stair us))) (i + 1)
      rw [kp, List.length_append] at kl
      simp only [List.length_cons, List.length_nil] at kl
      have klen : ks.length ≤ 39 := by rw [RK.len]; omega
      refine iteT ⟨_, rfl, o, _, rfl, .inl (SqL.of (s5 _ _ hk)), rfl, _, rfl, ?_⟩
      rw [decide_eq_false (fun e => by injection e with e; rw [List.length_map] at e; omega)]
      refine iteF ⟨_, rfl, .inl ⟨rfl, _, SqL.of (s5 _ _ hk)⟩, _, rfl, o, _, _, rfl, rfl, s5 _ _ hk, ?_, ?_⟩
      · rw [List.length_map]
        exact small60 (by omega)
      have hoH : H o = none := ho
      have s6 : SameT (upd G4 e (.lst [])) (upd (upd G4 e (.lst [])) o (.lst (ks.map V.ref ++ [V.ref b]))) := fun c xs h => by
        rw [upd_ne (fun q => by rw [q, s5 _ _ hk] at h; cases h)]
        exact h
      refine ⟨same_wr (sm2.trans s5) ho, ?_, (RT2.keep (tups s5)).keep s6, ⟨ks ++ [b], by rw [upd_same, List.map_append]; rfl, ?_⟩, _, _, _, rfl⟩
      · rw [upd_ne nso]
        exact s5 _ _ hsp
      · rw [kp]
        exact ((RK.keep (tups s5)).keep s6).snoc (s6 _ _ (s5 _ _ tb))
  · rintro σ G2 ⟨sm2, hsp, RT2, ⟨ks, hk, RK⟩, y, z1, z2, rfl⟩
    rw [show (ts.map V.ref).length = (isort (L.map (stair us))).length by rw [List.length_map, RT2.len], List.take_length] at RK
    have hkm : ∀ m ∈ keepL [] (isort (L.map (stair us))), ∃ r ∈ L, m = stair us r := fun m hm => by
      rcases keep_mem _ _ _ hm with h | h
      · cases h
      · obtain ⟨r, hr', e⟩ := List.mem_map.mp ((isort_perm _).mem_iff.mp h)
        exact ⟨r, hr', e.symm⟩
    refine ⟨_, rfl, o, rfl, ⟨_, SqL.of hk⟩, fun D2 hD2 => lc_rows (M := (keepL [] (isort (L.map (stair us)))).map (rowOf us)) (walk_list.mono (fun H e => SqL.of e) fun _ _ _ _ _ _ y => y) hk RK (by rw [List.length_map]) (by omega) hD2 (fun _ => rfl) ?_ ?_⟩
    · intro j b r m G Q' h1 h2 sm tb k'
      rw [List.getElem?_map, h1] at h2
      cases h2
      obtain ⟨r0, hr0, rfl⟩ := hkm r (List.mem_of_getElem? h1)
      exact ⟨_, rfl, _, rfl, p, b, us, _, rfl, sm _ _ (sm2 _ _ hp), hu, .inl tb, stair_len (hv r0 hr0).1.1, fun G' t s ht => k' G' t s ht⟩
    · intro G5 rs sm5 hG5 RR
      have hR : ∀ m ∈ (keepL [] (isort (L.map (stair us)))).map (rowOf us), m.length = us.length + 1 ∧ TS.Bd BB m := fun m hm => by
        obtain ⟨s', hs', rfl⟩ := List.mem_map.mp hm
        obtain ⟨r0, hr0, rfl⟩ := hkm s' hs'
        rw [rowOf_stair (hv r0 hr0).1.1]
        exact row_ok hu (hv r0 hr0).1 (hv r0 hr0).2
      have ls2 : rs.length ≤ 40 := by rw [RR.len, List.length_map]; omega
      refine ⟨D2, rs.map V.ref, rfl, SqL.of hG5, by rw [List.length_map]; omega, fun x hx => ?_, fun ys sp2 hperm2 hsort2 hn2 => ?_⟩
      · obtain ⟨a, ha, rfl⟩ := List.mem_map.mp hx
        have := RR.mem ha
        exact ⟨_, ⟨a, rfl, SqT.of this.2⟩, hR _ this.1⟩
      obtain ⟨bs, rfl, RB⟩ := sorted_rows RR hR hperm2 hsort2
      have s7 := same_new (o := .lst (bs.map V.ref)) hn2
      exact ⟨sp2, _, rfl, .inl ⟨SqL.of upd_same, fun l hl => k _ l bs (sm2.trans (sm5.trans (s7.trans (same_new hl)))) upd_same ((RB.keep (tups s7)).keep (tups (same_new hl)))⟩⟩
end
end SR

namespace SR
open PySem PySem.Spec PyProof.Rows L2 SY
/-- a tuple of rows -/
def RowsAt (H : Hp) (v : V) (L : List (List Int)) : Prop := ∃ (a : Addr) (cs : List Addr), v = .ref a ∧ H a = some (.tup (cs.map V.ref)) ∧ Rows H cs L
theorem RowsAt.keep {H H' : Hp} {v : V} {L : List (List Int)} (h : RowsAt H v L) (s : SameT H H') : RowsAt H' v L :=
  let ⟨a, cs, e, h1, R⟩ := h
  ⟨a, cs, e, s _ _ h1, R.keep s⟩
/-- one pair of rows put -/
def put1 (us : List Int) (w : Wd) (n m : List Int) : List Int := if w = .tog then addL n m else higher us n m
theorem pairs_put {us : List Int} {w : Wd} (hw : w ≠ .one) (L M : List (List Int)) : pairs us w L M = L.flatMap fun n => M.map (put1 us w n) := by
  cases w with
  | one => exact absurd rfl hw
  | tog => rfl
  | any => rfl
theorem flat_snoc {us : List Int} {w : Wd} {L M : List (List Int)} {i : Nat} {n : List Int} (h : L[i]? = some n) : (L.take (i + 1)).flatMap (fun n => M.map (put1 us w n)) = (L.take i).flatMap (fun n => M.map (put1 us w n)) ++ M.map (put1 us w n) := by
  rw [take_snoc h, List.flatMap_append]
  simp
section
variable {P : Program} {w : World} {K : PySem.W.Frag} {mg : Str → Option Value} {base : Heap}
def spTwo : Sp := fun vs H Q _ => ∃ (p : Addr) (x y : V) (us : List Int) (wd : Wd) (L M : List (List Int)), vs = [.ref p, .str (wdS wd), x, y] ∧ TI H p us ∧ Us us ∧ RowsAt H x L ∧ RowsAt H y M ∧ AllV us L ∧ AllV us M ∧ okK us (pairs us wd L M) = true ∧
  ∀ H' v, Same H H' → RowsAt H' v (twoPut us wd L M) → Q v H'
theorem ok_two_put (D : Df K mg "two_put" s_two_put ["units", "word", "one", "other"]) (B : Bi mg) (F_least_kept : Cl P w K mg base 2 "least_kept" ["units", "rows"] spLeast) (F_added : Cl P w K mg base 1 "added" ["one", "other"] (spAdd2 addL))
    (F_higher_row : Cl P w K mg base 2 "higher_row" ["units", "one", "other"] spHigher) : Cl P w K mg base 3 "two_put" ["units", "word", "one", "other"] spTwo := by
  refine cl_of D c_two_put (fun vs H Q E h => ?_) (fun f cdv A outer s H vs Q E hr h => ?_)
  · obtain ⟨p, x, y, us, wd, L, M, rfl, _⟩ := h
    rfl
  obtain ⟨p, x, y, us, wd, L, M, rfl, hp, hu, ⟨a, as, rfl, ha, RA⟩, ⟨b, bs, rfl, hb, RB⟩, vL, vM, hok, k⟩ := h
  refine ⟨_, (pss_cons (ps_if (pt_cmpR op_eq (pv 1) pe_str (by rfl)) (pss_one (ps_ret (pe_cl F_least_kept hr (by omega) (by rfl) (pa_cons (pv 0) (pa_cons (pe_op op_catA (pv 2) (pv 3)) pa_nil))))) pss_nil) (pss_cons (ps_set (i := 4) c_two_put.nd rfl (by first | exact .inl rfl | exact .inr rfl) (pe_lst pa_nil)) (pss_cons (ps_for PassesOwn.never rfl (pi_tup (pv 2)) (pg_name (i := 5) c_two_put.nd rfl (by first | exact .inl rfl | exact .inr rfl)) (pss_one (ps_for PassesOwn.never rfl (pi_tup (pv 3)) (pg_name (i := 6) c_two_put.nd rfl (by first | exact .inl rfl | exact .inr rfl)) (pss_one (ps_expr (pe_bm PySem.F.plainAttrs_list PySem.F.slot_list_append PySem.F.type_list_append mt_append (pv 4) (pa_cons (pe_ifExp (pt_cmpR op_eq (pv 1) pe_str (by rfl)) (pe_cl F_added hr (by omega) (by rfl) (pa_cons (pv 5) (pa_cons (pv 6) pa_nil))) (pe_cl F_higher_row hr (by omega) (by rfl) (pa_cons (pv 0) (pa_cons (pv 5) (pa_cons (pv 6) pa_nil))))) pa_nil))))))) (pss_one (ps_ret (pe_cl F_least_kept hr (by omega) (by rfl) (pa_cons (pv 0) (pa_cons (pv 4) pa_nil)))))))), ?_⟩
  have h64 : (pairs us wd L M).length < 64 := by
    have h := hok
    unfold okK at h
    rw [Bool.and_eq_true, Bool.and_eq_true, decide_eq_true_eq] at h
    exact h.1.1
  have fin : ∀ (G : Hp) (q : Addr) (cs : List Addr) (Q' : VK), Same H G → Hs G q (cs.map V.ref) → Rows G cs (pairs us wd L M) → (∀ v H', Q v H' → Q' v H') → spLeast [.ref p, .ref q] G Q' E0 := fun G q cs Q' sm hq R hQ =>
    ⟨p, q, us, cs, pairs us wd L M, rfl, sm _ _ hp, hu, hq, R, hok, fun H' t ts s' ht RT => hQ _ _ (k H' _ (sm.trans s') ⟨t, ts, rfl, ht, RT⟩)⟩
  have hus := hu.1
  by_cases hw : wd = .one
  · subst hw
    have hl : L.length + M.length < 64 := by
      have : (pairs us .one L M) = L ++ M := rfl
      rw [this, List.length_append] at h64
      exact h64
    have ela := RA.len
    have elb := RB.len
    refine ⟨_, rfl, rfl, _, rfl, iteT ⟨_, rfl, _, rfl, _, rfl, a, b, _, _, rfl, rfl, SqT.of ha, SqT.of hb, ?_, fun e => ?_, fun _ e => ?_, fun _ _ q hq => ?_⟩⟩
    · rw [List.length_map, List.length_map]
      exact Nat.le_of_lt (small60 (by omega))
    · have e2 : as = [] := List.map_eq_nil_iff.mp e
      subst e2
      have e3 : L = [] := List.eq_nil_of_length_eq_zero ela.symm
      subst e3
      unfold tNil
      show spLeast _ _ _ _
      exact fin H b bs _ (Same.refl H) (.inr hb) RB fun _ _ z => z
    · have e2 : bs = [] := List.map_eq_nil_iff.mp e
      subst e2
      have e3 : M = [] := List.eq_nil_of_length_eq_zero elb.symm
      subst e3
      unfold tNil
      show spLeast _ _ _ _
      refine fin H a as _ (Same.refl H) (.inr ha) ?_ fun _ _ z => z
      show Rows H as (L ++ [])
      rw [List.append_nil]
      exact RA
    · unfold tNil
      show spLeast _ _ _ _
      have s1 := same_new (o := .tup (as.map V.ref ++ bs.map V.ref)) hq
      refine fin _ q (as ++ bs) _ s1 (.inr (by rw [List.map_append]; exact upd_same)) ((RA.append RB).keep (tups s1)) fun _ _ z => z
  · have e0 : decide (V.str (wdS wd) = V.str "one") = false := by
      cases wd with
      | one => exact absurd rfl hw
      | _ => rfl
    have ep := pairs_put (us := us) hw L M
    have el : (pairs us wd L M).length = L.length * M.length := by rw [ep, len_prod]
    refine ⟨_, rfl, rfl, _, rfl, ?_⟩
    rw [e0]
    refine iteF ⟨by show 0 ≤ sizeLine; decide, fun o ho => ?_⟩
    have s1 := same_new (o := .lst []) ho
    refine ⟨_, rfl, a, rfl, ⟨_, SqT.of (s1 _ _ ha)⟩, for_tup (xs := as.map V.ref) (fun i σ G => Same H G ∧ (∃ cs : List Addr, G o = some (.lst (cs.map V.ref)) ∧ Rows G cs ((L.take i).flatMap fun n => M.map (put1 us wd n))) ∧ ∃ y z, σ = [some (.ref p), some (.str (wdS wd)), some (.ref a), some (.ref b), some (.ref o), y, z])
      ⟨s1, ⟨[], upd_same, .nil⟩, none, none, rfl⟩ (fun i σ G _ h => SqT.of (h.1 _ _ ha)) ?_ ?_⟩
    · rintro i x σ G hx ⟨sm, ⟨cs, hG, RC⟩, y, z, rfl⟩
      obtain ⟨c, hc, rfl⟩ := at_ref hx
      obtain ⟨n, hn, _⟩ := RA.get hc
      have hiL := (List.getElem?_eq_some_iff.mp hn).1
      refine ⟨_, rfl, b, rfl, ⟨_, SqT.of (sm _ _ hb)⟩, for_tup (xs := bs.map V.ref) (fun j σ G => Same H G ∧ (∃ cs : List Addr, G o = some (.lst (cs.map V.ref)) ∧ Rows G cs ((L.take i).flatMap (fun n => M.map (put1 us wd n)) ++ (M.take j).map (put1 us wd n))) ∧
          ∃ z, σ = [some (.ref p), some (.str (wdS wd)), some (.ref a), some (.ref b), some (.ref o), some (.ref c), z])
        ⟨sm, ⟨cs, hG, by simpa using RC⟩, z, rfl⟩ (fun j σ G _ h => SqT.of (h.1 _ _ hb)) ?_ ?_⟩
      · rintro j x2 σ2 G2 hx2 ⟨sm2, ⟨ds, hd, RD⟩, z2, rfl⟩
        obtain ⟨d, hd2, rfl⟩ := at_ref hx2
        obtain ⟨m, hm, _⟩ := RB.get hd2
        have hjM := (List.getElem?_eq_some_iff.mp hm).1
        have tc : TI G2 c n := sm2 _ _ (RA.at_ i c n hc hn)
        have td : TI G2 d m := sm2 _ _ (RB.at_ j d m hd2 hm)
        have ln := (vL n (List.mem_of_getElem? hn)).1
        have lm := (vM m (List.mem_of_getElem? hm)).1
        have room : ds.length ≤ 64 := by
          have h1 : (i + 1) * M.length ≤ L.length * M.length := Nat.mul_le_mul_right _ hiL
          have h2 := RD.len
          rw [List.length_append, List.length_map, len_prod, List.length_take, List.length_take, Nat.min_eq_left (by omega), Nat.min_eq_left (by omega)] at h2
          rw [Nat.add_mul] at h1
          omega
        have put : ∀ (G3 : Hp) (t : Addr), Same G2 G3 → TI G3 t (put1 us wd n m) → ∃ (l : Addr) (xs : List V) (v : V), V.ref o = V.ref l ∧ [V.ref t] = [v] ∧ G3 l = some (.lst xs) ∧ xs.length < sizeLine ∧
            (Same H (upd G3 l (.lst (xs ++ [v]))) ∧ (∃ cs : List Addr, upd G3 l (.lst (xs ++ [v])) o = some (.lst (cs.map V.ref)) ∧ Rows (upd G3 l (.lst (xs ++ [v]))) cs ((L.take i).flatMap (fun n => M.map (put1 us wd n)) ++ (M.take (j + 1)).map (put1 us wd n)))) := fun G3 t s3 ht => by
          have ho3 := s3 _ _ hd
          have s6 : SameT G3 (upd G3 o (.lst (ds.map V.ref ++ [V.ref t]))) := fun c xs h => by
            rw [upd_ne (fun q => by rw [q, ho3] at h; cases h)]
            exact h
          refine ⟨o, _, _, rfl, rfl, ho3, by rw [List.length_map]; exact small60 (by omega), same_wr (sm2.trans s3) ho, ds ++ [t], by rw [upd_same, List.map_append]; rfl, ?_⟩
          rw [take_snoc hm, List.map_append, ← List.append_assoc]
          exact ((RD.keep (tups s3)).keep s6).snoc (s6 _ _ ht)
        refine ⟨_, rfl, .inl ⟨rfl, _, SqL.of hd⟩, _, rfl, rfl, _, rfl, ?_⟩
        by_cases ht : wd = .tog
        · subst ht
          refine iteT ⟨_, rfl, _, rfl, c, d, n, m, rfl, tc, td, by omega, by omega, fun G3 t s3 h3 => ?_⟩
          obtain ⟨l, xs, v, e1, e2, e3, e4, e5, e6⟩ := put G3 t s3 (by unfold put1; rw [if_pos rfl]; exact h3)
          exact ⟨l, xs, v, e1, e2, e3, e4, e5, e6, _, rfl⟩
        · have e1 : decide (V.str (wdS wd) = V.str "together") = false := by
            cases wd with
            | tog => exact absurd rfl ht
            | _ => rfl
          rw [e1]
          refine iteF ⟨_, rfl, _, rfl, _, rfl, p, c, d, us, n, m, rfl, sm2 _ _ hp, hu, tc, td, ln, lm, fun G3 t s3 h3 => ?_⟩
          obtain ⟨l, xs, v, e1, e2, e3, e4, e5, e6⟩ := put G3 t s3 (by unfold put1; rw [if_neg ht]; exact h3)
          exact ⟨l, xs, v, e1, e2, e3, e4, e5, e6, _, rfl⟩
      · rintro σ2 G2 ⟨sm2, ⟨ds, hd, RD⟩, z2, rfl⟩
        refine ⟨sm2, ⟨ds, hd, ?_⟩, _, _, rfl⟩
        rw [flat_snoc hn]
        have e : (bs.map V.ref).length = M.length := by rw [List.length_map, RB.len]
        rw [e, List.take_length] at RD
        exact RD
    · rintro σ G ⟨sm, ⟨cs, hG, RC⟩, y, z, rfl⟩
      have e : (as.map V.ref).length = L.length := by rw [List.length_map, RA.len]
      rw [e, List.take_length, ← ep] at RC
      refine ⟨_, rfl, _, rfl, ?_⟩
      unfold tNil
      show spLeast _ _ _ _
      exact fin G o cs _ sm (.inl hG) RC fun _ _ z => z
end
end SR

namespace SR
open PySem PySem.Spec PyProof.Rows L2 SY
/-! ### lists of tuples of rows -/
def rowD (r : List Int) : PyData := .tuple (r.map PyData.int)
def rowsD (L : List (List Int)) : PyData := .tuple (L.map rowD)
theorem rows_lay : ∀ L : List (List Int), PyData.canLayAll0 (L.map rowD) = true ∧ PyData.depthAll (L.map rowD) ≤ 1
  | [] => ⟨rfl, Nat.zero_le _⟩
  | r :: L => by
    have ih := rows_lay L
    constructor
    · simp only [List.map_cons, PyData.canLayAll0, rowD, PyData.canLay0, (lay_ints r).1, Bool.true_and]
      exact ih.1
    · simp only [List.map_cons, PyData.depthAll, rowD, PyData.depth, (lay_ints r).2]
      have := ih.2
      omega
theorem lists_lay : ∀ LL : List (List (List Int)), PyData.canLayAll0 (LL.map rowsD) = true ∧ PyData.depthAll (LL.map rowsD) ≤ 2
  | [] => ⟨rfl, Nat.zero_le _⟩
  | L :: LL => by
    have ih := lists_lay LL
    constructor
    · simp only [List.map_cons, PyData.canLayAll0, rowsD, PyData.canLay0, (rows_lay L).1, Bool.true_and]
      exact ih.1
    · have h := (rows_lay L).2
      simp only [List.map_cons, PyData.depthAll, rowsD, PyData.depth]
      have := ih.2
      omega
theorem lists_shaped (LL : List (List (List Int))) : SeqAt.shaped (.list (LL.map rowsD)) = true := by
  have h := lists_lay LL
  unfold SeqAt.shaped
  rw [Bool.and_eq_true, decide_eq_true_eq]
  constructor
  · simp only [PyData.canLay0]
    exact h.1
  · simp only [PyData.depth]
    omega
theorem dp_row {K : PySem.W.Frag} {H : Hp} {a : Addr} {r : List Int} (h : TI H a r) : Dp K H (.ref a) (rowD r) := .tup (SqT.of h) (dp_ints r)
theorem dp_rows {K : PySem.W.Frag} {H : Hp} : ∀ {as : List Addr} {L : List (List Int)}, Rows H as L → DpAll K H (as.map V.ref) (L.map rowD)
  | [], [], _ => .nil
  | [], _ :: _, R => absurd R.len (by simp)
  | _ :: _, [], R => absurd R.len (by simp)
  | a :: as, r :: L, R => .cons (dp_row (R.at_ 0 a r rfl rfl)) (dp_rows ⟨by have := R.len; simpa using this, fun i a r h1 h2 => R.at_ (i + 1) a r (by simpa using h1) (by simpa using h2)⟩)
theorem dp_rowsAt {K : PySem.W.Frag} {H : Hp} {v : V} {L : List (List Int)} (h : RowsAt H v L) : Dp K H v (rowsD L) := by
  obtain ⟨a, cs, rfl, h1, R⟩ := h
  exact .tup (SqT.of h1) (dp_rows R)
/-- values that hold rows, one by one -/
def Each (H : Hp) (vs : List V) (LL : List (List (List Int))) : Prop := vs.length = LL.length ∧ ∀ (i : Nat) (v : V) (L : List (List Int)), vs[i]? = some v → LL[i]? = some L → RowsAt H v L
theorem Each.keep {H H' : Hp} {vs : List V} {LL : List (List (List Int))} (h : Each H vs LL) (s : SameT H H') : Each H' vs LL := ⟨h.1, fun i v L h1 h2 => (h.2 i v L h1 h2).keep s⟩
theorem Each.snoc {H : Hp} {vs : List V} {LL : List (List (List Int))} {v : V} {L : List (List Int)} (h : Each H vs LL) (q : RowsAt H v L) : Each H (vs ++ [v]) (LL ++ [L]) := by
  refine ⟨by rw [List.length_append, List.length_append, h.1]; rfl, fun i x M h1 h2 => ?_⟩
  rw [List.getElem?_append] at h1 h2
  rw [h.1] at h1
  by_cases c : i < LL.length
  · rw [if_pos c] at h1 h2
    exact h.2 i x M h1 h2
  · rw [if_neg c] at h1 h2
    cases e : i - LL.length with
    | zero =>
      rw [e] at h1 h2
      simp at h1 h2
      subst h1 h2
      exact q
    | succ n =>
      rw [e] at h1
      simp at h1
theorem Each.get {H : Hp} {vs : List V} {LL : List (List (List Int))} (h : Each H vs LL) {i : Nat} {v : V} (e : vs[i]? = some v) : ∃ L, LL[i]? = some L ∧ RowsAt H v L := by
  have hi : i < LL.length := by rw [← h.1]; exact (List.getElem?_eq_some_iff.mp e).1
  exact ⟨LL[i], List.getElem?_eq_getElem hi, h.2 i v _ e (List.getElem?_eq_getElem hi)⟩
theorem dp_each {K : PySem.W.Frag} {H : Hp} : ∀ {vs : List V} {LL : List (List (List Int))}, Each H vs LL → DpAll K H vs (LL.map rowsD)
  | [], [], _ => .nil
  | [], _ :: _, h => absurd h.1 (by simp)
  | _ :: _, [], h => absurd h.1 (by simp)
  | v :: vs, L :: LL, h => .cons (dp_rowsAt (h.2 0 v L rfl rfl)) (dp_each ⟨by have := h.1; simpa using this, fun i a r h1 h2 => h.2 (i + 1) a r (by simpa using h1) (by simpa using h2)⟩)
theorem eq_none {K : PySem.W.Frag} {H : Hp} {a b : Addr} {vs : List V} {LL : List (List (List Int))} {Q : VK} (h1 : H a = some (.lst vs)) (h : Each H vs LL) (h2 : H b = some (.lst [])) (q : Q (.bl (decide (LL = []))) H) : rEqD K (.ref a) (.ref b) H Q := by
  refine ⟨.list (LL.map rowsD), .list [], .lst (SqL.of h1) (dp_each h), .lst (SqL.of h2) .nil, lists_shaped LL, by rfl, ?_⟩
  have e : PyData.eqv (.list (LL.map rowsD)) (.list []) = decide (LL = []) := by
    cases LL <;> simp [PyData.eqv, PyData.eqvAll]
  rw [e]
  exact q
theorem okFold_at {us : List Int} {w : Wd} : ∀ (ms : List (List (List Int))) (l : List (List Int)) (i : Nat) (m : List (List Int)), okFold us w l ms = true → ms[i]? = some m → okK us (pairs us w ((ms.take i).foldl (twoPut us w) l) m) = true
  | [], _, _, _, _, h => by simp at h
  | x :: ms, l, 0, m, h, e => by
    simp at e
    subst e
    simp only [okFold, Bool.and_eq_true] at h
    exact h.1
  | x :: ms, l, i + 1, m, h, e => by
    simp only [okFold, Bool.and_eq_true] at h
    rw [List.take_succ_cons, List.foldl_cons]
    exact okFold_at ms _ i m h.2 (by simpa using e)
section
variable {P : Program} {w : World} {K : PySem.W.Frag} {mg : Str → Option Value} {base : Heap}
def spRows (n : Nat) : Sp := fun vs H Q _ => ∃ (p : Addr) (v : V) (us : List Int) (f : Form), vs = [.ref p, v] ∧ TI H p us ∧ Us us ∧ FA H f v ∧ okF us f = true ∧ shp us f = true ∧ dep f ≤ n ∧ ∀ H' x, Same H H' → RowsAt H' x (rowsF us f) → Q x H'
theorem ok_formula_rows (D : Df K mg "formula_rows" s_formula_rows ["units", "formula"]) (B : Bi mg) (F_two_put : Cl P w K mg base 3 "two_put" ["units", "word", "one", "other"] spTwo) (F_zeros_of : Cl P w K mg base 1 "zeros_of" ["units"] spZeros) :
    ∀ n : Nat, Cl P w K mg base (n + 4) "formula_rows" ["units", "formula"] (spRows n)
  | 0 => by
    refine cl_of D c_formula_rows (fun vs H Q E h => ?_) (fun f cdv A outer s H vs Q E hr h => ?_)
    · obtain ⟨p, v, us, f, rfl, _⟩ := h
      rfl
    · obtain ⟨p, v, us, f, rfl, _, _, _, _, _, hd, _⟩ := h
      have := dep_pos f
      omega
  | n + 1 => by
    have G := ok_formula_rows D B F_two_put F_zeros_of n
    refine cl_of D c_formula_rows (fun vs H Q E h => ?_) (fun f cdv A outer s H vs Q E hr h => ?_)
    · obtain ⟨p, v, us, f, rfl, _⟩ := h
      rfl
    obtain ⟨p, v, us, fm, rfl, hp, hu, hf, hok, hsh, hd, k⟩ := h
    refine ⟨_, (pss_cons (ps_if (pt_cmpR op_eq (pe_ix ix_tup (pv 1) pe_int (fun _ _ => rfl)) pe_str (by rfl)) (pss_one (ps_ret (pe_tup (pa_cons (pe_ix ix_tup (pv 1) pe_int (fun _ _ => rfl)) pa_nil)))) pss_nil) (pss_cons (ps_setLc (i := 2) (own := [("part", 5)]) (g := (gName 5)) (tt := tYes) rfl c_formula_rows.nd rfl rfl (sw_true rfl rfl rfl (by decide +kernel)) (pi_tup (pe_ix ix_tup (pv 1) pe_int (fun _ _ => rfl))) (blkOk_by (N := ["units", "formula", "lists", "found", "other", "part"]) (sc := defScope s_formula_rows) (by decide +kernel)) (fun _ _ _ _ _ => (pg_name (i := 5) c_formula_rows.nd rfl (by first | exact .inl rfl | exact .inr rfl))) (fun _ _ _ _ _ => pts_nil) (fun _ _ _ _ _ => (pe_cl G hr (by omega) (by rfl) (pa_cons (pv 0) (pa_cons (pv 5) pa_nil))))) (pss_cons (ps_if (pt_cmpR (op_eqD (Room.u64 hr)) (pv 2) (pe_lst pa_nil) (by rfl)) (pss_one (ps_ret (pe_ifExp (pt_cmpR op_eq (pe_ix ix_tup (pv 1) pe_int (fun _ _ => rfl)) pe_str (by rfl)) (pe_tup pa_nil) (pe_tup (pa_cons (pe_cl F_zeros_of hr (by omega) (by rfl) (pa_cons (pv 0) pa_nil)) pa_nil))))) pss_nil) (pss_cons (ps_set (i := 3) c_formula_rows.nd rfl (by first | exact .inl rfl | exact .inr rfl) (pe_ix ix_list (pv 2) pe_int (fun _ _ => rfl))) (pss_cons (ps_for PassesOwn.never rfl (pi_list (pe_slice sl_list (pv 2) (po_some pe_int) po_none)) (pg_name (i := 4) c_formula_rows.nd rfl (by first | exact .inl rfl | exact .inr rfl)) (pss_one (ps_set (i := 3) c_formula_rows.nd rfl (by first | exact .inl rfl | exact .inr rfl) (pe_cl F_two_put hr (by omega) (by rfl) (pa_cons (pv 0) (pa_cons (pe_ix ix_tup (pv 1) pe_int (fun _ _ => rfl)) (pa_cons (pv 3) (pa_cons (pv 4) pa_nil)))))))) (pss_one (ps_ret (pv 3)))))))), ?_⟩
    cases fm with
    | row r =>
      simp only [FA] at hf
      obtain ⟨a, q, rfl, h1, h2⟩ := hf
      refine ⟨_, rfl, a, _, 0, _, rfl, rfl, SqT.of h1, atI_nat (j := 0) rfl, rfl, _, rfl, iteT ?_⟩
      refine ⟨_, rfl, a, _, 1, _, rfl, rfl, SqT.of h1, atI_nat (j := 1) rfl, by show 1 ≤ sizeLine; decide, fun t ht => ?_⟩
      have s1 := same_new (o := .tup [V.ref q]) ht
      refine k _ _ s1 ⟨t, [q], rfl, upd_same, ?_⟩
      simp only [rowsF]
      exact .one (s1 _ _ h2)
    | node wd fs =>
      simp only [FA] at hf
      obtain ⟨a, q, as, rfl, h1, h2, h3⟩ := hf
      simp only [shp, Bool.and_eq_true, decide_eq_true_eq] at hsh
      simp only [okF, Bool.and_eq_true] at hok
      simp only [dep] at hd
      simp only [rowsF] at k
      have las := h3.len
      have e1 : decide (V.str (wdS wd) = V.str "row") = false := by cases wd <;> rfl
      refine ⟨_, rfl, a, _, 0, _, rfl, rfl, SqT.of h1, atI_nat (j := 0) rfl, rfl, _, rfl, ?_⟩
      rw [e1]
      have lfs : (rowsFs us fs).length = fs.length := by rw [rowsFs_map, List.length_map]
      have v4 : ∀ m ∈ rowsFs us fs, AllV us m := fun m hm => (okFs_v hu.pos fs hok.1 m hm).1
      refine iteF ⟨_, rfl, a, _, 1, _, rfl, rfl, SqT.of h1, atI_nat (j := 1) rfl, q, rfl, ⟨_, SqT.of h2⟩, fun D0 hD => lc_it (walk_tup (xs := as)) (fun i G1 => Same H G1 ∧ ∃ vs, G1 D0 = some (.lst vs) ∧ Each G1 vs ((rowsFs us fs).take i))
        ⟨same_new hD, [], upd_same, rfl, fun i v L h => by simp at h⟩ (fun i G1 _ h => SqT.of (h.1 _ _ h2)) ?_ ?_⟩
      · rintro i x G1 G2 hi ⟨sm, vs, hG, EG⟩ ⟨rfl, hx⟩
        obtain ⟨g, hg, fg⟩ := h3.get hx
        have gm := List.mem_of_getElem? hg
        have hrg : (rowsFs us fs)[i]? = some (rowsF us g) := by rw [rowsFs_map, List.getElem?_map, hg]; rfl
        have d1 := deps_mem fs g gm
        refine ⟨rfl, _, rfl, _, rfl, p, x, us, g, rfl, sm _ _ hp, hu, FA.keep (tups sm) g x fg, okFs_all us fs hok.1 g gm, shps_mem us fs hsh.2 g gm, by omega, fun G3 y s3 hy => ?_⟩
        have hG3 := s3 _ _ hG
        have s6 : SameT G3 (upd G3 D0 (.lst (vs ++ [y]))) := fun c xs h => by
          rw [upd_ne (fun q => by rw [q, hG3] at h; cases h)]
          exact h
        refine ⟨_, hG3, ?_, same_wr (sm.trans s3) hD, vs ++ [y], upd_same, ?_⟩
        · rw [EG.1, List.length_take]
          exact small60 (by omega)
        · rw [take_snoc hrg]
          exact ((EG.keep (tups s3)).keep s6).snoc (hy.keep s6)
      rintro G1 ⟨sm, vs, hG, EG⟩
      rw [las, ← lfs, List.take_length] at EG
      refine ⟨_, rfl, by show 0 ≤ sizeLine; decide, fun e he => ?_⟩
      have s2 := same_new (o := .lst []) he
      refine eq_none (s2 _ _ hG) (EG.keep (tups s2)) upd_same ⟨_, rfl, ?_⟩
      have sm2 := sm.trans s2
      cases hLL : rowsFs us fs with
      | nil =>
        rw [hLL] at k
        refine iteT ⟨_, rfl, a, _, 0, _, rfl, rfl, SqT.of (sm2 _ _ h1), atI_nat (j := 0) rfl, rfl, _, rfl, ?_⟩
        cases wd with
        | one =>
          refine iteT ⟨by show 0 ≤ sizeLine; decide, fun t ht => k _ _ (sm2.trans (same_new ht)) ⟨t, [], rfl, upd_same, .nil⟩⟩
        | tog =>
          refine iteF ⟨_, rfl, p, us, rfl, sm2 _ _ hp, hu.1, fun G2 z s3 hz => ⟨by show 1 ≤ sizeLine; decide, fun t ht => ?_⟩⟩
          exact k _ _ (sm2.trans (s3.trans (same_new ht))) ⟨t, [z], rfl, upd_same, .one (same_new ht _ _ hz)⟩
        | any =>
          refine iteF ⟨_, rfl, p, us, rfl, sm2 _ _ hp, hu.1, fun G2 z s3 hz => ⟨by show 1 ≤ sizeLine; decide, fun t ht => ?_⟩⟩
          exact k _ _ (sm2.trans (s3.trans (same_new ht))) ⟨t, [z], rfl, upd_same, .one (same_new ht _ _ hz)⟩
      | cons L0 LS =>
        rw [hLL] at k EG hok v4 lfs
        obtain ⟨v0, vr, rfl⟩ : ∃ v0 vr, vs = v0 :: vr := by
          cases vs with
          | nil => exact absurd EG.1 (by simp)
          | cons x y => exact ⟨x, y, rfl⟩
        have R0 : RowsAt G1 v0 L0 := EG.2 0 v0 L0 rfl rfl
        have ER : Each G1 vr LS := ⟨by have := EG.1; simpa using this, fun i x L q1 q2 => EG.2 (i + 1) x L (by simpa using q1) (by simpa using q2)⟩
        refine iteF ⟨_, rfl, D0, _, 0, _, rfl, rfl, SqL.of (s2 _ _ hG), atI_nat (j := 0) rfl, ?_⟩
        refine ⟨_, rfl, 1, rfl, D0, _, rfl, SqL.of (s2 _ _ hG), fun t ht => ?_⟩
        have s3 := s2.trans (same_new (o := .lst (cutV (v0 :: vr) (some 1) none)) ht)
        refine ⟨t, rfl, ⟨_, SqL.of upd_same⟩, ?_⟩
        rw [cut_one]
        refine for_list (xs := vr) (fun i σ G2 => Same G1 G2 ∧ G2 t = some (.lst vr) ∧ ∃ x y z, RowsAt G2 x ((LS.take i).foldl (twoPut us wd) L0) ∧ σ = [some (.ref p), some (.ref a), some (.ref D0), some x, y, z])
          ⟨by rw [cut_one] at s3; exact s3, upd_same, v0, none, none, R0.keep (by rw [cut_one] at s3; exact tups s3), rfl⟩ (fun i σ G2 _ h => SqL.of h.2.1) ?_ ?_
        · rintro i x σ G2 hx ⟨s4, ht2, y, z1, z2, RY, rfl⟩
          obtain ⟨M, hM, RM⟩ := ER.get hx
          have sm4 := sm.trans s4
          have hok2 := okFold_at LS L0 i M hok.2 hM
          refine ⟨_, rfl, _, rfl, a, _, 0, _, rfl, rfl, SqT.of (sm4 _ _ h1), atI_nat (j := 0) rfl, _, rfl, _, rfl, p, y, x, us, wd, _, M, rfl, sm4 _ _ hp, hu, RY, RM.keep (tups s4), ?_, v4 M (List.mem_cons_of_mem _ (List.mem_of_getElem? hM)), hok2, fun G3 r s5 hr' => ?_⟩
          · exact foldl_v hu.pos wd _ _ (v4 L0 (List.mem_cons_self ..)) fun m hm => v4 m (List.mem_cons_of_mem _ (List.mem_of_mem_take hm))
          · refine ⟨s4.trans s5, s5 _ _ ht2, r, _, _, ?_, rfl⟩
            rw [take_snoc hM, List.foldl_append]
            exact hr'
        · rintro σ G2 ⟨s4, ht2, y, z1, z2, RY, rfl⟩
          have e : vr.length = LS.length := ER.1
          rw [e, List.take_length] at RY
          exact ⟨_, rfl, k _ _ (sm.trans s4) RY⟩
def spStocks : Sp := fun vs H Q _ => ∃ (p : Addr) (v : V) (us : List Int) (f : Form), vs = [.ref p, v] ∧ TI H p us ∧ Us us ∧ FA H f v ∧ Fine us f ∧ ∀ H' x, Same H H' → RowsAt H' x (rowsF us f) → Q x H'
theorem ok_formula_stocks (D : Df K mg "formula_stocks" s_formula_stocks ["units", "formula"]) (F_need_formula : Cl P w K mg base 11 "need_formula" ["units", "value"] spNeedFormula) (F_formula_rows : Cl P w K mg base 10 "formula_rows" ["units", "formula"] (spRows 6)) :
    Cl P w K mg base 12 "formula_stocks" ["units", "formula"] spStocks := by
  refine cl_of D c_formula_stocks (fun vs H Q E h => ?_) (fun f cdv A outer s H vs Q E hr h => ?_)
  · obtain ⟨p, v, us, f, rfl, _⟩ := h
    rfl
  obtain ⟨p, v, us, fm, rfl, hp, hu, hf, ⟨h1, h2, h3, h4⟩, k⟩ := h
  refine ⟨_, (pss_cons (ps_expr (pe_cl F_need_formula hr (by omega) (by rfl) (pa_cons (pv 0) (pa_cons (pv 1) pa_nil)))) (pss_one (ps_ret (pe_cl F_formula_rows hr (by omega) (by rfl) (pa_cons (pv 0) (pa_cons (pv 1) pa_nil)))))), ?_⟩
  refine ⟨_, rfl, _, rfl, p, v, us, fm, rfl, hp, hu, hf, h1, h2, h3, fun H1 s1 => ?_⟩
  exact ⟨_, rfl, _, rfl, p, v, us, fm, rfl, s1 _ _ hp, hu, FA.keep (tups s1) fm v hf, h4, h1, h3, fun H2 x s2 hx => k H2 x (s1.trans s2) hx⟩
def spEnough : Sp := fun vs H Q _ => ∃ (p b : Addr) (v : V) (us r : List Int) (L : List (List Int)), vs = [.ref p, v, .ref b] ∧ TI H p us ∧ Us us ∧ RowsAt H v L ∧ AllV us L ∧ L.length ≤ 1000000 ∧ TI H b r ∧ VR us r ∧ ∀ H', Same H H' → Q (.bl (enB us L r)) H'
theorem ok_is_enough (D : Df K mg "is_enough" s_is_enough ["units", "rows", "stock"]) (F_within : Cl P w K mg base 2 "within" ["units", "order", "stock"] spWithin) : Cl P w K mg base 3 "is_enough" ["units", "rows", "stock"] spEnough := by
  refine cl_of D c_is_enough (fun vs H Q E h => ?_) (fun f cdv A outer s H vs Q E hr h => ?_)
  · obtain ⟨p, b, v, us, r, L, rfl, _⟩ := h
    rfl
  obtain ⟨p, b, v, us, r, L, rfl, hp, hu, ⟨a, as, rfl, ha, R⟩, vL, lL, hb, vr, k⟩ := h
  refine ⟨_, (pss_one (ps_ret (pe_cmpR (op_neD (Room.u64 hr)) (pe_lc (own := [("row", 3)]) (g := (gName 3)) rfl c_is_enough.nd (pi_tup (pv 1)) (blkOk_by (N := ["units", "rows", "stock", "row"]) (sc := defScope s_is_enough) (by decide +kernel)) (fun _ _ _ _ _ => (pg_name (i := 3) c_is_enough.nd rfl (by first | exact .inl rfl | exact .inr rfl))) (fun _ _ _ _ _ => pts_one (pt_val (pe_cl F_within hr (by omega) (by rfl) (pa_cons (pv 0) (pa_cons (pv 3) (pa_cons (pv 2) pa_nil)))))) (fun _ _ _ _ _ => pe_int)) (pe_lst pa_nil) (by rfl)))), ?_⟩
  refine ⟨_, rfl, a, rfl, ⟨_, SqT.of ha⟩, fun D1 hD1 => lc_it (walk_tup (xs := as.map V.ref)) (fun j G4 => Same H G4 ∧ G4 D1 = some (.lst ((ones ((L.take j).countP fun o => sv us o r)).map V.int)))
      ⟨same_new hD1, upd_same⟩ (fun j G4 _ h => SqT.of (h.1 _ _ ha)) ?_ ?_⟩
  · rintro j x G4 G5 hj ⟨sm4, hG4⟩ ⟨rfl, hxj⟩
    obtain ⟨c, hc, rfl⟩ := at_ref hxj
    obtain ⟨cr, hcr, tc⟩ := R.get hc
    have vc := vL cr (List.mem_of_getElem? hcr)
    refine ⟨rfl, _, rfl, _, rfl, _, rfl, p, c, b, us, cr, r, rfl, sm4 _ _ hp, hu, sm4 _ _ tc, sm4 _ _ hb, vc.1, vr.1, fun G6 s6 => ⟨_, rfl, ?_⟩⟩
    have cs := countP_snoc (fun o => sv us o r) hcr
    cases ql : sv us cr r with
    | false =>
      refine iteF ⟨sm4.trans s6, ?_⟩
      rw [cs, ql]
      exact s6 _ _ hG4
    | true =>
      refine iteT ⟨_, s6 _ _ hG4, ?_, same_wr (sm4.trans s6) hD1, ?_⟩
      · rw [ones_len]
        refine small60 (Nat.le_trans List.countP_le_length ?_)
        rw [List.length_take]
        omega
      · rw [upd_same, cs, ql]
        exact congrArg (fun l => some (HO.lst l)) (ones_snoc _).symm
  rintro G4 ⟨sm4, hG4⟩
  rw [show (as.map V.ref).length = L.length by rw [List.length_map, R.len], List.take_length] at hG4
  refine ⟨by show 0 ≤ sizeLine; decide, fun e he => ?_⟩
  have s5 := same_new (o := .lst []) he
  refine ne_lst (ms := []) (s5 _ _ hG4) upd_same ?_
  rw [ones_eq, countP_any, Bool.not_not]
  exact k _ (sm4.trans s5)
def spEnoughFor : Sp := fun vs H Q _ => ∃ (p b : Addr) (v : V) (us r : List Int) (f : Form), vs = [.ref p, v, .ref b] ∧ TI H p us ∧ Us us ∧ FA H f v ∧ Fine us f ∧ (rowsF us f).length ≤ 1000000 ∧ TI H b r ∧ rowB us r = true ∧ ∀ H', Same H H' → Q (.bl (enF us f r)) H'
theorem ok_is_enough_for (D : Df K mg "is_enough_for" s_is_enough_for ["units", "formula", "stock"]) (F_need_formula : Cl P w K mg base 11 "need_formula" ["units", "value"] spNeedFormula) (F_need_row : Cl P w K mg base 3 "need_row" ["units", "value"] spNeedRow)
    (F_formula_rows : Cl P w K mg base 10 "formula_rows" ["units", "formula"] (spRows 6)) (F_is_enough : Cl P w K mg base 3 "is_enough" ["units", "rows", "stock"] spEnough) : Cl P w K mg base 12 "is_enough_for" ["units", "formula", "stock"] spEnoughFor := by
  refine cl_of D c_is_enough_for (fun vs H Q E h => ?_) (fun f cdv A outer s H vs Q E hr h => ?_)
  · obtain ⟨p, b, v, us, r, f, rfl, _⟩ := h
    rfl
  obtain ⟨p, b, v, us, r, fm, rfl, hp, hu, hf, ⟨h1, h2, h3, h4⟩, hl, hb, hrb, k⟩ := h
  refine ⟨_, (pss_cons (ps_expr (pe_cl F_need_formula hr (by omega) (by rfl) (pa_cons (pv 0) (pa_cons (pv 1) pa_nil)))) (pss_cons (ps_expr (pe_cl F_need_row hr (by omega) (by rfl) (pa_cons (pv 0) (pa_cons (pv 2) pa_nil)))) (pss_one (ps_ret (pe_cl F_is_enough hr (by omega) (by rfl) (pa_cons (pv 0) (pa_cons (pe_cl F_formula_rows hr (by omega) (by rfl) (pa_cons (pv 0) (pa_cons (pv 1) pa_nil))) (pa_cons (pv 2) pa_nil)))))))), ?_⟩
  have vr : VR us r := by
    unfold rowB at hrb
    rw [Bool.and_eq_true, decide_eq_true_eq, List.all_eq_true] at hrb
    exact ⟨hrb.1, fun x hx => by have := hrb.2 x hx; rw [Bool.and_eq_true, decide_eq_true_eq] at this; exact this.1⟩
  refine ⟨_, rfl, _, rfl, p, v, us, fm, rfl, hp, hu, hf, h1, h2, h3, fun H1 s1 => ?_⟩
  refine ⟨_, rfl, _, rfl, p, b, us, r, rfl, s1 _ _ hp, hu, s1 _ _ hb, hrb, ?_⟩
  refine ⟨_, rfl, _, rfl, _, rfl, p, v, us, fm, rfl, s1 _ _ hp, hu, FA.keep (tups s1) fm v hf, h4, h1, h3, fun H2 x s2 hx => ?_⟩
  have s12 := s1.trans s2
  exact ⟨_, rfl, p, b, x, us, r, _, rfl, s12 _ _ hp, hu, hx, (okF_v hu.pos fm h4).1, hl, s12 _ _ hb, vr, fun H3 s3 => k H3 (s12.trans s3)⟩
end
end SR

namespace SR
open PySem PySem.Spec PyProof.Rows L2 SY
theorem Room.u1 {X : Cx} {k : Nat} (hr : Room k X.A) : X.A.units + 1 < cLine := by
  have := hr.un
  omega
theorem Room.u0 {X : Cx} {k : Nat} (hr : Room k X.A) : X.A.units < cLine := by
  have := hr.un
  omega
/-- the state of the draws: its dict d, the cells at c, the lefts at l, how far it is -/
structure St (H : Hp) (d c l : Addr) (n : Int) : Prop where
  dict : H d = some (.dK [(.inr "cells", .ref c), (.inr "lefts", .ref l), (.inr "at", .int n)])
  body : ∃ cells lefts : List Int, H c = some (.lst (cells.map V.int)) ∧ H l = some (.lst (lefts.map V.int)) ∧ cells.length = lefts.length ∧ 0 < cells.length ∧ cells.length ≤ 1000000
  ne : c ≠ l
/-- all but the state stays -/
def Fr (d l : Addr) (H H' : Hp) : Prop := ∀ b o, b ≠ d → b ≠ l → H b = some o → H' b = some o
theorem Fr.refl (d l : Addr) (H : Hp) : Fr d l H H := fun _ _ _ _ e => e
theorem Fr.trans {d l : Addr} {H H1 H2 : Hp} (a : Fr d l H H1) (b : Fr d l H1 H2) : Fr d l H H2 := fun x o h1 h2 e => b x o h1 h2 (a x o h1 h2 e)
theorem fr_same {d l : Addr} {H H' : Hp} (s : Same H H') : Fr d l H H' := fun b o _ _ e => s b o e
theorem St.keep {H H' : Hp} {d c l : Addr} {n : Int} (h : St H d c l n) (s : Same H H') : St H' d c l n :=
  let ⟨x, y, h1, h2, h3⟩ := h.body
  ⟨s _ _ h.dict, ⟨x, y, s _ _ h1, s _ _ h2, h3⟩, h.ne⟩
/-- tuples stay -/
theorem St.tups {H H' : Hp} {d c l : Addr} {n : Int} (h : St H d c l n) (f : Fr d l H H') : SameT H H' := fun b xs e => by
  obtain ⟨x, y, h1, h2, h3⟩ := h.body
  refine f b _ (fun q => ?_) (fun q => ?_) e
  · rw [q, h.dict] at e
    cases e
  · rw [q, h2] at e
    cases e
section
variable {P : Program} {w : World} {K : PySem.W.Frag} {mg : Str → Option Value} {base : Heap}
def spMixed : Sp := fun vs H Q _ => ∃ c k : Int, vs = [.int c, .int k] ∧ 0 ≤ k ∧ k ≤ 10 ^ 9 ∧ ∀ r : Int, 0 ≤ r → r < 2147483629 → Q (.int r) H
theorem ok_mixed (D : Df K mg "_law_mixed" s_law_mixed ["_law_cell", "_law_k"]) (B : Bi mg) : Cl P w K mg base 1 "_law_mixed" ["_law_cell", "_law_k"] spMixed := by
  refine cl_of D c_law_mixed (fun vs H Q E h => ?_) (fun f cdv A outer s H vs Q E hr h => ?_)
  · obtain ⟨c, k, rfl, _⟩ := h
    rfl
  obtain ⟨c, k, rfl, h0, h1, q⟩ := h
  refine ⟨_, (pss_cons (ps_set (i := 0) c_law_mixed.nd rfl (by first | exact .inl rfl | exact .inr rfl) (pe_op op_mod (pe_callTy call_int1 (by rfl) B.int (by decide +kernel) (pa_cons (pv 0) pa_nil)) pe_int)) (pss_one (ps_ret (pe_op op_mod (pe_op op_mul (pe_op op_mod (pe_op op_add (pe_op op_add (pe_op op_mul (pv 0) (pe_op op_add pe_int (pe_op op_mul (pe_op op_mul pe_int (pv 1)) (pv 1)))) (pe_op op_mul pe_int (pv 1))) pe_int) pe_int) pe_int) pe_int)))), ?_⟩
  refine ⟨_, rfl, .inl ⟨_, rfl, _, _, rfl, rfl, (by show (0 : Int) < _; decide), ?_⟩⟩
  refine ⟨_, rfl, _, rfl, _, _, rfl, rfl, .inl ⟨by decide, by decide⟩, _, rfl, _, _, rfl, rfl, .inl ⟨by omega, by omega⟩, _, _, rfl, rfl, _, _, rfl, rfl, .inl ⟨?_, ?_⟩, ?_⟩
  · have := Int.emod_nonneg c (b := 2147483647) (by decide)
    omega
  · have := Int.emod_lt_of_pos c (b := 2147483647) (by decide)
    omega
  refine ⟨_, rfl, _, _, rfl, rfl, .inl ⟨by decide, by decide⟩, _, _, rfl, rfl, _, _, rfl, rfl, _, _, rfl, rfl, (by show (0 : Int) < _; decide), _, _, rfl, rfl, .inl ⟨?_, ?_⟩, _, _, rfl, rfl, (by show (0 : Int) < _; decide), ?_⟩
  · have := Int.emod_nonneg (c % 2147483647 * (48271 + 2 * k * k) + 69621 * k + 11) (b := 2147483647) (by decide)
    omega
  · have := Int.emod_lt_of_pos (c % 2147483647 * (48271 + 2 * k * k) + 69621 * k + 11) (b := 2147483647) (by decide)
    omega
  exact q _ (Int.emod_nonneg _ (by decide)) (Int.emod_lt_of_pos _ (by decide))
def spBegin (K : PySem.W.Frag) : Sp := fun vs H Q _ => ∃ (a : Addr) (ns : List Int), vs = [.ref a] ∧ SqL K H a (ns.map V.int) ∧ ns.length ≤ 1000 ∧ ∀ H' d c l, Same H H' → St H' d c l 0 → Q (.ref d) H'
theorem ne_lstQ {K : PySem.W.Frag} {H : Hp} {a b : Addr} {ns ms : List Int} {Q : VK} (h1 : SqL K H a (ns.map V.int)) (h2 : SqL K H b (ms.map V.int)) (q : Q (.bl (!decide (ns = ms))) H) : rNeD K (.ref a) (.ref b) H Q := by
  refine ⟨.list (ns.map PyData.int), .list (ms.map PyData.int), .lst h1 (dp_ints ns), .lst h2 (dp_ints ms), shaped_lst _, shaped_lst _, ?_⟩
  rw [show PyData.eqv (.list (ns.map PyData.int)) (.list (ms.map PyData.int)) = PyData.eqvAll (ns.map PyData.int) (ms.map PyData.int) by simp only [PyData.eqv], eqv_ints]
  exact q
theorem sqL_same {K : PySem.W.Frag} {H H' : Hp} {a : Addr} {xs : List V} (h : SqL K H a xs) (s : Same H H') : SqL K H' a xs := by
  rcases h with h | h
  · exact .inl (h.imp (s _ _) fun ⟨o, e⟩ => ⟨o, s _ _ e⟩)
  · exact .inr h
theorem none_of {H G : Hp} {a : Addr} (s : Same H G) (h : G a = none) : H a = none := by
  cases q : H a with
  | none => rfl
  | some o => rw [s _ _ q] at h; cases h
theorem ok_begin (D : Df K mg "_law_begin" s_law_begin ["_law_script"]) (B : Bi mg) : Cl P w K mg base 1 "_law_begin" ["_law_script"] (spBegin K) := by
  refine cl_of D c_law_begin (fun vs H Q E h => ?_) (fun f cdv A outer s H vs Q E hr h => ?_)
  · obtain ⟨a, ns, rfl, _⟩ := h
    rfl
  obtain ⟨a, ns, rfl, ha, hz, k⟩ := h
  refine ⟨_, (pss_cons (ps_set (i := 1) c_law_begin.nd rfl (by first | exact .inl rfl | exact .inr rfl) (pe_ifExp (pt_cmpR (op_neD (Room.u64 hr)) (pv 0) (pe_lst pa_nil) (by rfl)) (pe_callTy call_list_of (by rfl) B.lst (by decide +kernel) (pa_cons (pv 0) pa_nil)) (pe_lst (pa_cons pe_int pa_nil)))) (pss_one (ps_ret (pe_disp (pps_cons pe_str (pv 1) (pps_cons pe_str (pe_lc (own := [("_law_cell", 2)]) (g := (gName 2)) (tt := tYes) rfl c_law_begin.nd (pi_list (pv 1)) (blkOk_by (N := ["_law_script", "_law_cells_so", "_law_cell"]) (sc := defScope s_law_begin) (by decide +kernel)) (fun _ _ _ _ _ => (pg_name (i := 2) c_law_begin.nd rfl (by first | exact .inl rfl | exact .inr rfl))) (fun _ _ _ _ _ => pts_nil) (fun _ _ _ _ _ => (pe_ifExp (pt_cmpR op_ge (pv 2) (pe_op op_pow pe_int pe_int) (by rfl)) (pv 2) pe_int))) (pps_cons pe_str pe_int pps_nil))) (by rfl) (by rfl) (fun z => by cases z) (by decide))))), ?_⟩
  refine ⟨_, rfl, by show 0 ≤ sizeLine; decide, fun e he => ne_lstQ (ms := []) (sqL_same ha (same_new he)) (SqL.of upd_same) ⟨_, rfl, ?_⟩⟩
  have s1 := same_new (o := .lst []) he
  by_cases hn : ns = []
  · subst hn
    refine iteF ⟨by show 1 ≤ sizeLine; decide, fun t ht => ?_⟩
    have sG := s1.trans (same_new (o := .lst [V.int 0]) ht)
    have hc : upd (upd H e (.lst [])) t (.lst [V.int 0]) t = some (.lst (([0] : List Int).map V.int)) := upd_same
    generalize upd (upd H e (.lst [])) t (.lst [V.int 0]) = G at sG hc
    have hlen : ([0] : List Int).length ≤ 1000000 := by decide
    refine fun d hd => ⟨_, rfl, ?_⟩
    have sd := same_new (o := .dK []) hd
    have hcd := sd _ _ hc
    refine ⟨_, rfl, t, rfl, ⟨_, SqL.of hcd⟩, fun l hl => lc_it (walk_list (xs := (([0] : List Int)).map V.int)) (fun i G2 => Same (upd G d (.dK [])) G2 ∧ ∃ lefts : List Int, G2 l = some (.lst (lefts.map V.int)) ∧ lefts.length = i) ⟨same_new hl, [], upd_same, rfl⟩ (fun i G2 _ h => SqL.of (h.1 _ _ hcd)) ?_ ?_⟩
    · rintro i x G2 G3 hi ⟨s2, lefts, hl2, ll⟩ ⟨rfl, hx⟩
      obtain ⟨z, hz2, rfl⟩ := at_int hx
      rw [List.length_map] at hi
      have put : ∀ y : Int, ∃ acc, G3 l = some (.lst acc) ∧ acc.length < sizeLine ∧ Same (upd G d (.dK [])) (upd G3 l (.lst (acc ++ [.int y]))) ∧ ∃ lefts : List Int, upd G3 l (.lst (acc ++ [.int y])) l = some (.lst (lefts.map V.int)) ∧ lefts.length = i + 1 := fun y =>
        ⟨_, hl2, by rw [List.length_map]; exact small60 (by rw [ll]; exact Nat.le_trans (Nat.le_of_lt hi) hlen), same_wr s2 hl, lefts ++ [y], by rw [upd_same, List.map_append]; rfl, by rw [List.length_append, ll]; rfl⟩
      refine ⟨rfl, _, rfl, _, _, rfl, rfl, ⟨by decide, by decide, by decide⟩, _, _, rfl, rfl, _, rfl, ?_⟩
      generalize decide ((10 : Int) ^ Int.toNat 18 ≤ z) = bb
      cases bb
      · exact iteF (put _)
      · exact iteT ⟨_, rfl, put _⟩
    · rintro G2 ⟨s2, lefts, hl2, ll⟩
      rw [List.length_map] at ll
      have hd2 := s2 _ _ upd_same
      refine ⟨hd2, [(.inr "cells", .ref t), (.inr "lefts", .ref l), (.inr "at", .int 0)], rfl, by show 3 ≤ 15; decide, ?_⟩
      have hcl : t ≠ l := fun q => by rw [← q, hcd] at hl; cases hl
      have ndt : t ≠ d := fun q => by rw [← q, hc] at hd; cases hd
      have ndl : l ≠ d := fun q => by rw [q, upd_same] at hl; cases hl
      refine k _ d t l (same_wr (sG.trans (sd.trans s2)) (none_of sG hd)) ⟨upd_same, ⟨([0] : List Int), lefts, by rw [upd_ne ndt]; exact s2 _ _ hcd, by rw [upd_ne ndl]; exact hl2, by omega, by decide, by decide⟩, hcl⟩
  · rw [decide_eq_false hn]
    refine iteT ⟨_, rfl, a, _, rfl, .inl (sqL_same ha s1), fun t ht => ?_⟩
    have sG := s1.trans (same_new (o := .lst (ns.map V.int)) ht)
    have hc : upd (upd H e (.lst [])) t (.lst (ns.map V.int)) t = some (.lst (ns.map V.int)) := upd_same
    generalize upd (upd H e (.lst [])) t (.lst (ns.map V.int)) = G at sG hc
    have hlen : ns.length ≤ 1000000 := by omega
    refine fun d hd => ⟨_, rfl, ?_⟩
    have sd := same_new (o := .dK []) hd
    have hcd := sd _ _ hc
    refine ⟨_, rfl, t, rfl, ⟨_, SqL.of hcd⟩, fun l hl => lc_it (walk_list (xs := (ns).map V.int)) (fun i G2 => Same (upd G d (.dK [])) G2 ∧ ∃ lefts : List Int, G2 l = some (.lst (lefts.map V.int)) ∧ lefts.length = i) ⟨same_new hl, [], upd_same, rfl⟩ (fun i G2 _ h => SqL.of (h.1 _ _ hcd)) ?_ ?_⟩
    · rintro i x G2 G3 hi ⟨s2, lefts, hl2, ll⟩ ⟨rfl, hx⟩
      obtain ⟨z, hz2, rfl⟩ := at_int hx
      rw [List.length_map] at hi
      have put : ∀ y : Int, ∃ acc, G3 l = some (.lst acc) ∧ acc.length < sizeLine ∧ Same (upd G d (.dK [])) (upd G3 l (.lst (acc ++ [.int y]))) ∧ ∃ lefts : List Int, upd G3 l (.lst (acc ++ [.int y])) l = some (.lst (lefts.map V.int)) ∧ lefts.length = i + 1 := fun y =>
        ⟨_, hl2, by rw [List.length_map]; exact small60 (by rw [ll]; exact Nat.le_trans (Nat.le_of_lt hi) hlen), same_wr s2 hl, lefts ++ [y], by rw [upd_same, List.map_append]; rfl, by rw [List.length_append, ll]; rfl⟩
      refine ⟨rfl, _, rfl, _, _, rfl, rfl, ⟨by decide, by decide, by decide⟩, _, _, rfl, rfl, _, rfl, ?_⟩
      generalize decide ((10 : Int) ^ Int.toNat 18 ≤ z) = bb
      cases bb
      · exact iteF (put _)
      · exact iteT ⟨_, rfl, put _⟩
    · rintro G2 ⟨s2, lefts, hl2, ll⟩
      rw [List.length_map] at ll
      have hd2 := s2 _ _ upd_same
      refine ⟨hd2, [(.inr "cells", .ref t), (.inr "lefts", .ref l), (.inr "at", .int 0)], rfl, by show 3 ≤ 15; decide, ?_⟩
      have hcl : t ≠ l := fun q => by rw [← q, hcd] at hl; cases hl
      have ndt : t ≠ d := fun q => by rw [← q, hc] at hd; cases hd
      have ndl : l ≠ d := fun q => by rw [q, upd_same] at hl; cases hl
      refine k _ d t l (same_wr (sG.trans (sd.trans s2)) (none_of sG hd)) ⟨upd_same, ⟨ns, lefts, by rw [upd_ne ndt]; exact s2 _ _ hcd, by rw [upd_ne ndl]; exact hl2, by omega, by exact List.length_pos_iff.mpr hn, by omega⟩, hcl⟩
end
end SR

namespace SR
open PySem PySem.Spec PyProof.Rows L2 SY
section
variable {H : Hp} {d c l : Addr} {n : Int}
theorem St.gAt (h : St H d c l n) : DGet H d (.str "at") (some (.int n)) := by
  have q := DGet.k (k := .inr "at") h.dict
  have e : valV [((.inr "cells" : Key), V.ref c), (.inr "lefts", .ref l), (.inr "at", .int n)] (.inr "at") = some (.int n) := by rfl
  rw [e] at q
  exact q
theorem St.gCells (h : St H d c l n) : DGet H d (.str "cells") (some (.ref c)) := by
  have q := DGet.k (k := .inr "cells") h.dict
  have e : valV [((.inr "cells" : Key), V.ref c), (.inr "lefts", .ref l), (.inr "at", .int n)] (.inr "cells") = some (.ref c) := by rfl
  rw [e] at q
  exact q
theorem St.gLefts (h : St H d c l n) : DGet H d (.str "lefts") (some (.ref l)) := by
  have q := DGet.k (k := .inr "lefts") h.dict
  have e : valV [((.inr "cells" : Key), V.ref c), (.inr "lefts", .ref l), (.inr "at", .int n)] (.inr "lefts") = some (.ref l) := by rfl
  rw [e] at q
  exact q
/-- the state one on -/
def nxt (H : Hp) (d c l : Addr) (m : Int) : Hp := upd H d (.dK [(.inr "cells", .ref c), (.inr "lefts", .ref l), (.inr "at", .int m)])
theorem St.put (h : St H d c l n) (m : Int) : DPut H d (.str "at") (.int m) (nxt H d c l m) := by
  have q := DPut.k (k := .inr "at") (v := .int m) h.dict (by show 3 < sizeLine; rw [sizeLine_eq]; decide)
  have e : putK [((.inr "cells" : Key), V.ref c), (.inr "lefts", .ref l), (.inr "at", .int n)] (.inr "at") (.int m) = [((.inr "cells" : Key), V.ref c), (.inr "lefts", .ref l), (.inr "at", .int m)] := by rfl
  rw [e] at q
  exact q
theorem St.nxt (h : St H d c l n) (m : Int) : St (nxt H d c l m) d c l m := by
  obtain ⟨cells, lefts, h1, h2, h3, h4, h5⟩ := h.body
  have a1 : c ≠ d := fun q => by rw [q, h.dict] at h1; cases h1
  have a2 : l ≠ d := fun q => by rw [q, h.dict] at h2; cases h2
  exact ⟨upd_same, ⟨cells, lefts, by unfold SR.nxt; rw [upd_ne a1]; exact h1, by unfold SR.nxt; rw [upd_ne a2]; exact h2, h3, h4, h5⟩, h.ne⟩
theorem fr_nxt (m : Int) : Fr d l H (nxt H d c l m) := fun b o h1 _ e => by
  unfold SR.nxt
  rw [upd_ne h1]
  exact e
theorem St.left (h : St H d c l n) {lefts lefts2 : List Int} (e : H l = some (.lst (lefts.map V.int))) (hl : lefts2.length = lefts.length) : St (upd H l (.lst (lefts2.map V.int))) d c l n ∧ Fr d l H (upd H l (.lst (lefts2.map V.int))) := by
  obtain ⟨cells, lf, h1, h2, h3, h4, h5⟩ := h.body
  have a2 : d ≠ l := fun q => by rw [← q, h.dict] at h2; cases h2
  have e2 : lf.length = lefts.length := by
    rw [h2] at e
    injection e with e
    injection e with e
    have := congrArg List.length e
    simpa using this
  exact ⟨⟨by rw [upd_ne a2]; exact h.dict, ⟨cells, lefts2, by rw [upd_ne h.ne]; exact h1, upd_same, by omega, h4, h5⟩, h.ne⟩, fun b o _ h2 e => by rw [upd_ne h2]; exact e⟩
end
section
variable {P : Program} {w : World} {K : PySem.W.Frag} {mg : Str → Option Value} {base : Heap}
def spDraw : Sp := fun vs H Q _ => ∃ (d c l : Addr) (n lim : Int), vs = [.ref d, .int lim] ∧ St H d c l n ∧ 0 ≤ n ∧ n ≤ 1000000 ∧ 0 < lim ∧ lim ≤ 1000 ∧ ∀ H' r, 0 ≤ r → r < lim → Fr d l H H' → St H' d c l (n + 1) → Q (.int r) H'
theorem ok_draw (D : Df K mg "_law_draw" s_law_draw ["_law_state", "_law_limit"]) (B : Bi mg) (F__law_mixed : Cl P w K mg base 1 "_law_mixed" ["_law_cell", "_law_k"] spMixed) : Cl P w K mg base 2 "_law_draw" ["_law_state", "_law_limit"] spDraw := by
  refine cl_of D c_law_draw (fun vs H Q E h => ?_) (fun f cdv A outer s H vs Q E hr h => ?_)
  · obtain ⟨d, c, l, n, lim, rfl, _⟩ := h
    rfl
  obtain ⟨d, c, l, n, lim, rfl, S, n0, n1, l0, l1, k⟩ := h
  refine ⟨_, (pss_cons (ps_set (i := 2) c_law_draw.nd rfl (by first | exact .inl rfl | exact .inr rfl) (pe_dget (Room.u1 hr) (pv 0) pe_str (fun _ _ => rfl))) (pss_cons (ps_dput (Room.u1 hr) (pv 0) pe_str (pe_op op_add (pv 2) pe_int) rfl) (pss_cons (ps_set (i := 3) c_law_draw.nd rfl (by first | exact .inl rfl | exact .inr rfl) (pe_op op_mod (pe_callTy call_int1 (by rfl) B.int (by decide +kernel) (pa_cons (pv 2) pa_nil)) (pe_callB call_len_seq (by rfl) B.len PySem.boot_len (pa_cons (pe_dget (Room.u1 hr) (pv 0) pe_str (fun _ _ => rfl)) pa_nil)))) (pss_cons (ps_set (i := 4) c_law_draw.nd rfl (by first | exact .inl rfl | exact .inr rfl) (pe_ix ix_list (pe_dget (Room.u1 hr) (pv 0) pe_str (fun _ _ => rfl)) (pv 3) (fun _ _ => rfl))) (pss_cons (ps_if (pt_cmpR op_gt (pv 4) pe_int (by rfl)) (pss_cons (ps_asg (pe_op op_fdiv (pv 4) (pv 1)) (pg_sub (pe_dget (Room.u1 hr) (pv 0) pe_str (fun _ _ => rfl)) (pv 3) set_list)) (pss_one (ps_ret (pe_op op_mod (pe_callTy call_int1 (by rfl) B.int (by decide +kernel) (pa_cons (pv 4) pa_nil)) (pv 1))))) pss_nil) (pss_cons (ps_set (i := 5) c_law_draw.nd rfl (by first | exact .inl rfl | exact .inr rfl) (pe_cl F__law_mixed hr (by omega) (by rfl) (pa_cons (pe_cl F__law_mixed hr (by omega) (by rfl) (pa_cons (pe_ix ix_list (pe_dget (Room.u1 hr) (pv 0) pe_str (fun _ _ => rfl)) (pv 3) (fun _ _ => rfl)) (pa_cons (pv 2) pa_nil))) (pa_cons (pe_op op_add pe_int (pv 2)) pa_nil)))) (pss_one (ps_ret (pe_op op_mod (pe_op op_fdiv (pe_callTy call_int1 (by rfl) B.int (by decide +kernel) (pa_cons (pe_op op_add (pe_op op_mul (pv 5) pe_int) (pe_cl F__law_mixed hr (by omega) (by rfl) (pa_cons (pv 5) (pa_cons (pe_op op_add pe_int (pv 2)) pa_nil)))) pa_nil)) pe_int) (pv 1)))))))))), ?_⟩
  have S1 := S.nxt (n + 1)
  have f1 := fr_nxt (H := H) (d := d) (c := c) (l := l) (n + 1)
  obtain ⟨cells, lefts, hc, hl, e1, e2, e3⟩ := S1.body
  have hm0 := Int.emod_nonneg n (b := (cells.length : Int)) (by omega)
  have hm1 := Int.emod_lt_of_pos n (b := (cells.length : Int)) (by omega)
  obtain ⟨j, hj⟩ : ∃ j : Nat, n % (cells.length : Int) = (j : Int) := ⟨(n % (cells.length : Int)).toNat, by omega⟩
  have hjc : j < cells.length := by omega
  have hjl : j < lefts.length := by omega
  have gc : (cells.map V.int)[j]? = some (.int cells[j]) := at_intI (List.getElem?_eq_getElem hjc)
  have gl : (lefts.map V.int)[j]? = some (.int lefts[j]) := at_intI (List.getElem?_eq_getElem hjl)
  refine ⟨_, rfl, d, _, rfl, S.gAt, ?_⟩
  refine ⟨_, rfl, _, _, rfl, rfl, _, rfl, d, _, rfl, S.put (n + 1), ?_⟩
  refine ⟨_, rfl, .inl ⟨_, rfl, _, rfl, d, _, rfl, S1.gCells, c, _, rfl, .inl (SqL.of hc), _, _, rfl, rfl, ?_, ?_⟩⟩
  · show (0 : Int) < ((cells.map V.int).length : Int)
    rw [List.length_map]
    omega
  rw [List.length_map]
  dsimp only
  rw [hj]
  refine ⟨_, rfl, d, _, rfl, S1.gLefts, _, rfl, l, _, _, _, rfl, rfl, SqL.of hl, atI_nat gl, ?_⟩
  refine ⟨_, rfl, _, _, rfl, rfl, _, rfl, ?_⟩
  by_cases hp : 0 < lefts[j]
  · rw [decide_eq_true hp]
    refine iteT ⟨_, rfl, _, rfl, _, _, rfl, rfl, ⟨l0, by omega⟩, _, rfl, d, _, rfl, S1.gLefts, _, rfl, l, _, _, j, rfl, rfl, hl, ?_, ?_⟩
    · unfold ixN
      rw [List.length_map, if_pos (by omega), if_pos (by omega)]
      rfl
    have e4 : ((lefts.map V.int).set j (.int (lefts[j] / lim))) = (lefts.set j (lefts[j] / lim)).map V.int := by rw [List.map_set]
    rw [e4]
    have S2 := S1.left (lefts2 := lefts.set j (lefts[j] / lim)) hl (by rw [List.length_set])
    refine ⟨_, rfl, .inl ⟨_, rfl, _, rfl, _, _, rfl, rfl, l0, ?_⟩⟩
    exact k _ _ (Int.emod_nonneg _ (by omega)) (Int.emod_lt_of_pos _ l0) (f1.trans S2.2) S2.1
  · rw [decide_eq_false hp]
    refine iteF ⟨_, rfl, d, _, rfl, S1.gCells, _, rfl, c, _, _, _, rfl, rfl, SqL.of hc, atI_nat gc, _, rfl, _, _, rfl, n0, by omega, fun r1 a1 b1 => ?_⟩
    refine ⟨_, rfl, _, _, rfl, rfl, _, _, rfl, by omega, by omega, fun r2 a2 b2 => ?_⟩
    refine ⟨_, rfl, _, _, rfl, rfl, .inl ⟨by omega, by omega⟩, _, rfl, _, rfl, _, _, rfl, rfl, _, _, rfl, by omega, by omega, fun r3 a3 b3 => ?_⟩
    refine ⟨_, _, rfl, rfl, .inl ⟨_, rfl, _, _, rfl, rfl, ⟨by decide, by decide⟩, _, rfl, _, _, rfl, rfl, l0, ?_⟩⟩
    exact k _ _ (Int.emod_nonneg _ (by omega)) (Int.emod_lt_of_pos _ l0) f1 S1
end
end SR

namespace SR
open PySem PySem.Spec PyProof.Rows L2 SY
theorem fr_wr {d l a : Addr} {H G : Hp} {o : HO} (f : Fr d l H G) (h : H a = none) : Fr d l H (upd G a o) := fun b x h1 h2 e => by
  rw [upd_ne (ne_of_none e h)]
  exact f b x h1 h2 e
theorem St.fresh {H : Hp} {d c l a : Addr} {n : Int} (S : St H d c l n) (h : H a = none) : a ≠ d ∧ a ≠ c ∧ a ≠ l := by
  obtain ⟨x, y, h1, h2, _⟩ := S.body
  refine ⟨fun q => ?_, fun q => ?_, fun q => ?_⟩
  · rw [q, S.dict] at h
    cases h
  · rw [q, h1] at h
    cases h
  · rw [q, h2] at h
    cases h
theorem St.wr {G : Hp} {d c l a : Addr} {n : Int} {o : HO} (S : St G d c l n) (h : a ≠ d ∧ a ≠ c ∧ a ≠ l) : St (upd G a o) d c l n := by
  obtain ⟨x, y, h1, h2, h3⟩ := S.body
  exact ⟨by rw [upd_ne (Ne.symm h.1)]; exact S.dict, ⟨x, y, by rw [upd_ne (Ne.symm h.2.1)]; exact h1, by rw [upd_ne (Ne.symm h.2.2)]; exact h2, h3⟩, S.ne⟩
def mulL : List Int → List Int → List Int
  | x :: xs, y :: ys => (x * y) :: mulL xs ys
  | _, _ => []
theorem mulL_len : ∀ a b : List Int, (mulL a b).length = min a.length b.length
  | [], _ => by simp [mulL]
  | _ :: _, [] => by simp [mulL]
  | x :: xs, y :: ys => by simp only [mulL, List.length_cons, mulL_len xs ys]; omega
theorem mulL_get : ∀ (a b : List Int) (i : Nat) (x y : Int), a[i]? = some x → b[i]? = some y → (mulL a b)[i]? = some (x * y)
  | [], _, _, _, _, h, _ => by simp at h
  | _ :: _, [], _, _, _, _, h => by simp at h
  | p :: a, q :: b, 0, x, y, h1, h2 => by simp at h1 h2; subst h1 h2; rfl
  | p :: a, q :: b, i + 1, x, y, h1, h2 => by simpa [mulL] using mulL_get a b i x y (by simpa using h1) (by simpa using h2)
theorem mulL_sum : ∀ a b : List Int, (mulL a b).sum = dot a b
  | [], _ => by simp [mulL, dot]
  | _ :: _, [] => by simp [mulL, dot]
  | x :: xs, y :: ys => by simp only [mulL, dot, List.sum_cons, mulL_sum xs ys]
theorem sizes_le : ∀ us : List Int, (∀ u ∈ us, 1 ≤ u ∧ u ≤ 10) → ∀ s ∈ sizes us, 1 ≤ s ∧ s ≤ 10 ^ us.length
  | [], _, s, h => by simp [sizes] at h; subst h; simp
  | u :: us, hu, s, h => by
    have ih := sizes_le us fun x hx => hu x (List.mem_cons_of_mem _ hx)
    have h1 := hu u (List.mem_cons_self ..)
    simp only [sizes] at h
    obtain ⟨x, t, e⟩ := sizes_ne us
    rcases List.mem_cons.mp h with q | q
    · subst q
      rw [e]
      have h2 := ih x (by rw [e]; exact List.mem_cons_self ..)
      show 1 ≤ u * x ∧ u * x ≤ 10 ^ (us.length + 1)
      have h3 : u * 1 ≤ u * x := Int.mul_le_mul_of_nonneg_left h2.1 (by omega)
      have h4 : u * x ≤ 10 * x := Int.mul_le_mul_of_nonneg_right h1.2 (by omega)
      rw [Int.pow_succ]
      generalize u * x = z at *
      generalize (10 : Int) ^ us.length = y at *
      omega
    · have h2 := ih s q
      refine ⟨h2.1, Int.le_trans h2.2 ?_⟩
      rw [List.length_cons, Int.pow_succ]
      have : (0 : Int) < 10 ^ us.length := Int.pow_pos (by decide)
      omega
theorem Us.sizes {us : List Int} (h : Us us) : ∀ s ∈ SY.sizes us, 1 ≤ s ∧ s ≤ 1000 := fun s hs => by
  have h1 := sizes_le us (fun u hu => by have := h.2 u hu; omega) s hs
  refine ⟨h1.1, Int.le_trans h1.2 ?_⟩
  have h2 := h.1
  have : us.length = 0 ∨ us.length = 1 ∨ us.length = 2 ∨ us.length = 3 := by omega
  rcases this with e | e | e | e <;> rw [e] <;> decide
section
variable {P : Program} {w : World} {K : PySem.W.Frag} {mg : Str → Option Value} {base : Heap}
def spUnits : Sp := fun vs H Q _ => ∃ (d c l : Addr) (n : Int), vs = [.ref d] ∧ St H d c l n ∧ 0 ≤ n ∧ n ≤ 1000 ∧ ∀ H' t us m, Fr d l H H' → St H' d c l m → n ≤ m → m ≤ n + 3 → TI H' t us → us.length ≤ 2 → Us us → Q (.ref t) H'
theorem ok_units (D : Df K mg "_law_units" s_law_units ["_law_state"]) (B : Bi mg) (F__law_draw : Cl P w K mg base 2 "_law_draw" ["_law_state", "_law_limit"] spDraw) : Cl P w K mg base 3 "_law_units" ["_law_state"] spUnits := by
  refine cl_of D c_law_units (fun vs H Q E h => ?_) (fun f cdv A outer s H vs Q E hr h => ?_)
  · obtain ⟨d, c, l, n, rfl, _⟩ := h
    rfl
  obtain ⟨d, c, l, n, rfl, S, n0, n1, k⟩ := h
  refine ⟨_, (pss_one (ps_ret (pe_callTy call_tuple_of (by rfl) B.tup (by decide +kernel) (pa_cons (pe_lc (own := [("_law_step", 1)]) (g := (gName 1)) (tt := tYes) rfl c_law_units.nd (pi_range1 (by rfl) B.rng (pa_cons (pe_cl F__law_draw hr (by omega) (by rfl) (pa_cons (pv 0) (pa_cons pe_int pa_nil))) pa_nil)) (blkOk_by (N := ["_law_state", "_law_step"]) (sc := defScope s_law_units) (by decide +kernel)) (fun _ _ _ _ _ => (pg_name (i := 1) c_law_units.nd rfl (by first | exact .inl rfl | exact .inr rfl))) (fun _ _ _ _ _ => pts_nil) (fun _ _ _ _ _ => (pe_op op_add pe_int (pe_cl F__law_draw hr (by omega) (by rfl) (pa_cons (pv 0) (pa_cons pe_int pa_nil)))))) pa_nil)))), ?_⟩
  refine ⟨_, rfl, d, c, l, n, 3, rfl, S, n0, by omega, by decide, by decide, fun H1 r r0 r1 f1 S1 => ⟨r, rfl, by omega, by omega, fun D0 hD => ?_⟩⟩
  have hn := S1.fresh hD
  have hH : H D0 = none := by
    cases q : H D0 with
    | none => rfl
    | some o => rw [f1 _ _ hn.1 hn.2.2 q] at hD; cases hD
  refine lc_it (walk_range (n := r.toNat)) (fun i G => Fr d l H G ∧ St G d c l (n + 1 + i) ∧ ∃ us : List Int, G D0 = some (.lst (us.map V.int)) ∧ us.length = i ∧ ∀ u ∈ us, 2 ≤ u ∧ u ≤ 10)
    ⟨fr_wr f1 hH, by simpa using S1.wr hn, [], upd_same, rfl, fun u h => by cases h⟩ (fun _ _ _ _ => trivial) ?_ ?_
  · rintro i x G G' hi ⟨f2, S2, us, hG, lu, bu⟩ ⟨rfl, rfl⟩
    refine ⟨rfl, _, rfl, d, c, l, _, 3, rfl, S2, by omega, by omega, by decide, by decide, fun H3 y y0 y1 f3 S3 => ⟨_, _, rfl, rfl, _, f3 _ _ hn.1 hn.2.2 hG, ?_, fr_wr (f2.trans f3) hH, ?_, us ++ [2 + y], ?_, ?_, ?_⟩⟩
    · rw [List.length_map]
      exact small60 (by omega)
    · have e : n + 1 + ((i + 1 : Nat) : Int) = n + 1 + i + 1 := by omega
      rw [e]
      exact S3.wr hn
    · rw [upd_same, List.map_append]
      rfl
    · rw [List.length_append, lu]
      rfl
    · intro u hu
      rcases List.mem_append.mp hu with h | h
      · exact bu u h
      · rw [List.mem_singleton] at h
        omega
  · rintro G ⟨f2, S2, us, hG, lu, bu⟩
    refine ⟨D0, _, rfl, .inl ⟨SqL.of hG, fun t ht => ?_⟩⟩
    exact k _ t us _ (fr_wr f2 (by
      cases q : H t with
      | none => rfl
      | some o => 
        have ft := S2.fresh ht
        rw [f2 _ _ ft.1 ft.2.2 q] at ht; cases ht)) (S2.keep (same_new ht)) (by omega) (by omega) upd_same (by omega) ⟨by omega, bu⟩
def spSizes : Sp := fun vs H Q _ => ∃ (p : Addr) (us : List Int), vs = [.ref p] ∧ TI H p us ∧ Us us ∧ ∀ H' t, Same H H' → TI H' t (sizes us) → Q (.ref t) H'
theorem ok_sizes (D : Df K mg "_law_sizes" s_law_sizes ["_law_units_so"]) : Cl P w K mg base 1 "_law_sizes" ["_law_units_so"] spSizes := by
  refine cl_of D c_law_sizes (fun vs H Q E h => ?_) (fun f cdv A outer s H vs Q E hr h => ?_)
  · obtain ⟨p, us, rfl, _⟩ := h
    rfl
  obtain ⟨p, us, rfl, hp, hu, k⟩ := h
  refine ⟨_, (pss_cons (ps_set (i := 1) c_law_sizes.nd rfl (by first | exact .inl rfl | exact .inr rfl) (pe_tup (pa_cons pe_int pa_nil))) (pss_cons (ps_for PassesOwn.never rfl (pi_tup (pe_revT (pv 0))) (pg_name (i := 2) c_law_sizes.nd rfl (by first | exact .inl rfl | exact .inr rfl)) (pss_one (ps_set (i := 1) c_law_sizes.nd rfl (by first | exact .inl rfl | exact .inr rfl) (pe_op op_catA (pe_tup (pa_cons (pe_op op_mul (pe_ix ix_tup (pv 1) pe_int (fun _ _ => rfl)) (pv 2)) pa_nil)) (pv 1))))) (pss_one (ps_ret (pv 1))))), ?_⟩
  refine ⟨by show 1 ≤ sizeLine; decide, fun o ho => ?_⟩
  have s1 := same_new (o := .tup [.int 1]) ho
  refine ⟨_, rfl, p, _, rfl, SqT.of (s1 _ _ hp), fun z hz => ?_⟩
  have s2 := s1.trans (same_new (o := .tup (us.map V.int).reverse) hz)
  have hz2 : (upd (upd H o (.tup [.int 1])) z (.tup (us.map V.int).reverse)) z = some (.tup (us.reverse.map V.int)) := by rw [upd_same, List.map_reverse]
  have ho2 : (upd (upd H o (.tup [.int 1])) z (.tup (us.map V.int).reverse)) o = some (.tup [.int 1]) := same_new hz _ _ upd_same
  refine ⟨z, rfl, ⟨_, SqT.of hz2⟩, ?_⟩
  generalize upd (upd H o (.tup [.int 1])) z (.tup (us.map V.int).reverse) = G at s2 hz2 ho2
  refine for_tup (xs := us.reverse.map V.int) (fun i σ G2 => Same G G2 ∧ ∃ (fa : Addr) (y : Option V), TI G2 fa (sizes ((us.reverse.take i).reverse)) ∧ σ = [some (.ref p), some (.ref fa), y])
    ⟨Same.refl G, o, none, ho2, rfl⟩ (fun i σ G2 _ h => SqT.of (h.1 _ _ hz2)) ?_ ?_
  · rintro i x σ G2 hx ⟨sm, fa, y, hfa, rfl⟩
    obtain ⟨u, h1, rfl⟩ := at_int hx
    have hul := hu.2 u (List.mem_reverse.mp (List.mem_of_getElem? h1))
    have e : (us.reverse.take (i + 1)).reverse = u :: (us.reverse.take i).reverse := by rw [take_snoc h1, List.reverse_append]; rfl
    obtain ⟨s0, st, es⟩ := sizes_ne ((us.reverse.take i).reverse)
    have hl : (sizes ((us.reverse.take i).reverse)).length ≤ 4 := by
      rw [sizes_len, List.length_reverse, List.length_take, List.length_reverse]
      have := hu.1
      omega
    rw [es] at hfa hl
    refine ⟨_, rfl, fa, _, 0, _, rfl, rfl, SqT.of hfa, atI_nat (j := 0) rfl, _, rfl, s0, u, rfl, rfl, .inr ⟨by omega, by omega⟩, by show 1 ≤ sizeLine; decide, fun t ht => ?_⟩
    have s3 := same_new (o := .tup [.int (s0 * u)]) ht
    refine ⟨_, rfl, t, fa, _, _, rfl, rfl, SqT.of upd_same, SqT.of (s3 _ _ hfa), ?_, fun q => (by cases q), fun _ q => (by cases q), fun _ _ v hv => ?_⟩
    · rw [List.length_map]
      refine Nat.le_of_lt (small60 ?_)
      show 1 + _ ≤ _
      omega
    · refine ⟨sm.trans (s3.trans (same_new hv)), v, _, ?_, rfl⟩
      show upd _ v _ v = _
      rw [upd_same, e]
      simp only [sizes, es]
      rw [Int.mul_comm]
      rfl
  · rintro σ G2 ⟨sm, fa, y, hfa, rfl⟩
    rw [List.length_map, List.take_length, List.reverse_reverse] at hfa
    exact ⟨_, rfl, k _ _ (s2.trans sm) hfa⟩
def spTotal : Sp := fun vs H Q _ => ∃ (p q : Addr) (us r : List Int), vs = [.ref p, .ref q] ∧ TI H p us ∧ Us us ∧ TI H q r ∧ ∀ H', Same H H' → Q (.int (dot r (sizes us))) H'
theorem ok_total (D : Df K mg "_law_total" s_law_total ["_law_units_so", "_law_row_here"]) (B : Bi mg) (F__law_sizes : Cl P w K mg base 1 "_law_sizes" ["_law_units_so"] spSizes) : Cl P w K mg base 2 "_law_total" ["_law_units_so", "_law_row_here"] spTotal := by
  refine cl_of D c_law_total (fun vs H Q E h => ?_) (fun f cdv A outer s H vs Q E hr h => ?_)
  · obtain ⟨p, q, us, r, rfl, _⟩ := h
    rfl
  obtain ⟨p, q, us, r, rfl, hp, hu, hq, k⟩ := h
  refine ⟨_, (pss_one (ps_ret (pe_callB (cr_sum rfl) (by rfl) B.sum (by decide +kernel) (pa_cons (pe_lc (own := [("_law_number", 2), ("_law_size", 3)]) (g := (gTup K 2 (gCons (gName 2) (gCons (gName 3) gNil)))) (tt := tYes) rfl c_law_total.nd (RZ.pi_zipA (by rfl) B.zip (pa_cons (pv 1) (pa_cons (pe_cl F__law_sizes hr (by omega) (by rfl) (pa_cons (pv 0) pa_nil)) pa_nil))) (blkOk_by (N := ["_law_units_so", "_law_row_here", "_law_number", "_law_size"]) (sc := defScope s_law_total) (by decide +kernel)) (fun _ _ _ _ _ => (pg_tup rfl (pgs_cons (pg_name (i := 2) c_law_total.nd rfl (by first | exact .inl rfl | exact .inr rfl)) (pgs_cons (pg_name (i := 3) c_law_total.nd rfl (by first | exact .inl rfl | exact .inr rfl)) pgs_nil)))) (fun _ _ _ _ _ => pts_nil) (fun _ _ _ _ _ => (pe_op op_mul (pv 2) (pv 3)))) pa_nil)))), ?_⟩
  refine ⟨_, rfl, _, rfl, p, us, rfl, hp, hu, fun H1 t s1 ht => ?_⟩
  have hz : (sizes us).length ≤ 4 := by rw [sizes_len]; have := hu.1; omega
  refine ⟨q, t, _, _, rfl, .inr ⟨SqT.of (s1 _ _ hq), SqT.of ht, fun D0 hD => lc_it (walk_zipT (n := (mulL r (sizes us)).length) (by rw [List.length_map, List.length_map, mulL_len]))
    (fun i G => Same H1 G ∧ G D0 = some (.lst (((mulL r (sizes us)).take i).map V.int))) ⟨same_new hD, upd_same⟩ (fun i G _ h => ⟨SqT.of (h.1 _ _ (s1 _ _ hq)), SqT.of (h.1 _ _ ht)⟩) ?_ ?_⟩⟩
  · rintro i x G G' hi ⟨sm, hG⟩ ⟨T, x1, x2, rfl, nT, rfl, e1, e2⟩
    obtain ⟨n1, h1, rfl⟩ := at_int e1
    obtain ⟨n2, h2, rfl⟩ := at_int e2
    have hb := hu.sizes n2 (List.mem_of_getElem? h2)
    refine ⟨T, _, rfl, SqT.of upd_same, rfl, _, _, rfl, _, _, rfl, rfl, rfl, ?_⟩
    refine ⟨_, rfl, _, rfl, n1, n2, rfl, rfl, .inr ⟨by omega, by omega⟩, _, (by rw [upd_ne (ne_of_none hG nT)]; exact hG), ?_, same_wr (sm.trans (same_new nT)) hD, ?_⟩
    · rw [List.length_map, List.length_take]
      rw [mulL_len] at hi
      exact small60 (by omega)
    · rw [upd_same, take_snoc (mulL_get r (sizes us) i n1 n2 h1 h2), List.map_append]
      rfl
  · rintro G ⟨sm, hG⟩
    rw [List.take_length] at hG
    refine ⟨D0, _, rfl, SqL.of hG, ?_⟩
    rw [mulL_sum]
    exact k G (s1.trans sm)
theorem ok_without (D : Df K mg "_law_without" s_law_without ["_law_row_here", "_law_order"]) (B : Bi mg) : Cl P w K mg base 1 "_law_without" ["_law_row_here", "_law_order"] (spAdd2 subL) := by
  refine cl_of D c_law_without (fun vs H Q E h => ?_) (fun f cdv A outer s H vs Q E hr h => ?_)
  · obtain ⟨p, q, a, b, rfl, _⟩ := h
    rfl
  obtain ⟨p, q, a, b, rfl, hp, hq, hl, hz, k⟩ := h
  refine ⟨_, (pss_one (ps_ret (pe_callTy call_tuple_of (by rfl) B.tup (by decide +kernel) (pa_cons (pe_lc (own := [("_law_near", 2), ("_law_far", 3)]) (g := (gTup K 2 (gCons (gName 2) (gCons (gName 3) gNil)))) (tt := tYes) rfl c_law_without.nd (RZ.pi_zipA (by rfl) B.zip (pa_cons (pv 0) (pa_cons (pv 1) pa_nil))) (blkOk_by (N := ["_law_row_here", "_law_order", "_law_near", "_law_far"]) (sc := defScope s_law_without) (by decide +kernel)) (fun _ _ _ _ _ => (pg_tup rfl (pgs_cons (pg_name (i := 2) c_law_without.nd rfl (by first | exact .inl rfl | exact .inr rfl)) (pgs_cons (pg_name (i := 3) c_law_without.nd rfl (by first | exact .inl rfl | exact .inr rfl)) pgs_nil)))) (fun _ _ _ _ _ => pts_nil) (fun _ _ _ _ _ => (pe_op op_sub (pv 2) (pv 3)))) pa_nil)))), ?_⟩
  have la := subL_len a b hl
  refine ⟨_, rfl, _, rfl, p, q, _, _, rfl, .inr ⟨SqT.of hp, SqT.of hq, fun D0 hD => lc_it (walk_zipT (n := a.length) (by rw [List.length_map, List.length_map, ← hl, Nat.min_self]))
    (fun i G => Same H G ∧ G D0 = some (.lst (((subL a b).take i).map V.int))) ⟨same_new hD, upd_same⟩ (fun i G _ h => ⟨SqT.of (h.1 _ _ hp), SqT.of (h.1 _ _ hq)⟩) ?_ ?_⟩⟩
  · rintro i x G G' hi ⟨sm, hG⟩ ⟨T, x1, x2, rfl, nT, rfl, e1, e2⟩
    obtain ⟨n1, h1, rfl⟩ := at_int e1
    obtain ⟨n2, h2, rfl⟩ := at_int e2
    refine ⟨T, _, rfl, SqT.of upd_same, rfl, _, _, rfl, _, _, rfl, rfl, rfl, ?_⟩
    refine ⟨_, rfl, _, rfl, n1, n2, rfl, rfl, _, (by rw [upd_ne (ne_of_none hG nT)]; exact hG), ?_, same_wr (sm.trans (same_new nT)) hD, ?_⟩
    · rw [List.length_map, List.length_take]
      exact small60 (by omega)
    · rw [upd_same, take_snoc (subL_get a b i n1 n2 h1 h2), List.map_append]
      rfl
  · rintro G ⟨sm, hG⟩
    rw [List.take_of_length_le (by omega)] at hG
    exact ⟨D0, _, rfl, .inl ⟨SqL.of hG, fun l hl' => k _ l (sm.trans (same_new hl')) upd_same⟩⟩
def spRow : Sp := fun vs H Q _ => ∃ (d c l p : Addr) (n : Int) (us : List Int), vs = [.ref d, .ref p, .int 3] ∧ St H d c l n ∧ 0 ≤ n ∧ n ≤ 1000 ∧ TI H p us ∧ Us us ∧ us.length ≤ 2 ∧ ∀ H' t r m, Fr d l H H' → St H' d c l m → n ≤ m → m ≤ n + 4 → TI H' t r → DrRow us r → Q (.ref t) H'
theorem ok_row (D : Df K mg "_law_row" s_law_row ["_law_state", "_law_units_so", "_law_most"]) (B : Bi mg) (F__law_draw : Cl P w K mg base 2 "_law_draw" ["_law_state", "_law_limit"] spDraw) (F__law_sizes : Cl P w K mg base 1 "_law_sizes" ["_law_units_so"] spSizes) :
    Cl P w K mg base 3 "_law_row" ["_law_state", "_law_units_so", "_law_most"] spRow := by
  refine cl_of D c_law_row (fun vs H Q E h => ?_) (fun f cdv A outer s H vs Q E hr h => ?_)
  · obtain ⟨d, c, l, p, n, us, rfl, _⟩ := h
    rfl
  obtain ⟨d, c, l, p, n, us, rfl, S, n0, n1, hp, hu, hl2, k⟩ := h
  refine ⟨_, (pss_cons (ps_par (i := 3) (j := 4) rfl c_law_row.nd rfl rfl (by decide) rfl rfl (pa_cons (pe_tup pa_nil) (pa_cons (pe_cl F__law_draw hr (by omega) (by rfl) (pa_cons (pv 0) (pa_cons (pe_op op_add (pv 2) pe_int) pa_nil))) pa_nil)) (by rfl)) (pss_cons (ps_for PassesOwn.never rfl (pi_tup (pe_cl F__law_sizes hr (by omega) (by rfl) (pa_cons (pv 1) pa_nil))) (pg_name (i := 5) c_law_row.nd rfl (by first | exact .inl rfl | exact .inr rfl)) (pss_cons (ps_set (i := 6) c_law_row.nd rfl (by first | exact .inl rfl | exact .inr rfl) (pe_cl F__law_draw hr (by omega) (by rfl) (pa_cons (pv 0) (pa_cons (pe_op op_add (pe_op op_fdiv (pe_callTy call_int1 (by rfl) B.int (by decide +kernel) (pa_cons (pv 4) pa_nil)) (pv 5)) pe_int) pa_nil)))) (pss_one (ps_par (i := 3) (j := 4) rfl c_law_row.nd rfl rfl (by decide) rfl rfl (pa_cons (pe_op op_catA (pv 3) (pe_tup (pa_cons (pv 6) pa_nil))) (pa_cons (pe_op op_sub (pv 4) (pe_op op_mul (pv 6) (pv 5))) pa_nil)) (by rfl))))) (pss_one (ps_ret (pv 3))))), ?_⟩
  refine ⟨by show 0 ≤ sizeLine; decide, fun o ho => ?_⟩
  have s1 := same_new (o := .tup []) ho
  refine ⟨_, rfl, _, rfl, _, _, rfl, rfl, d, c, l, n, 4, rfl, S.keep s1, n0, by omega, by decide, by decide, fun H1 r r0 r1 f1 S1 => ?_⟩
  have t1 := (S.keep s1).tups f1
  refine ⟨_, _, rfl, _, rfl, p, us, rfl, t1 _ _ (s1 _ _ hp), hu, fun H2 z s2 hz => ?_⟩
  refine ⟨z, rfl, ⟨_, SqT.of hz⟩, for_tup (xs := (sizes us).map V.int) (fun i σ G => Fr d l H G ∧ SameT H2 G ∧ St G d c l (n + 1 + i) ∧ ∃ (fa : Addr) (x : List Int) (left : Int) (y1 y2 : Option V), TI G fa x ∧ x.length = i ∧ nonneg x ∧ 0 ≤ left ∧ dot x (sizes us) + left ≤ 3 ∧
      σ = [some (.ref d), some (.ref p), some (.int 3), some (.ref fa), some (.int left), y1, y2])
    ⟨((fr_same s1).trans f1).trans (fr_same s2), SameT.refl _, by simpa using S1.keep s2, o, [], r, none, none, tups s2 _ _ (t1 _ _ upd_same), rfl, fun x h => (by cases h), r0, by simp [dot]; omega, rfl⟩ (fun i σ G _ h => SqT.of (h.2.1 _ _ hz)) ?_ ?_⟩
  · rintro i x σ G hx ⟨f2, t2, S2, fa, xs, left, y1, y2, hfa, lx, nx, l0, hd, rfl⟩
    obtain ⟨sz, h1, rfl⟩ := at_int hx
    have hb := hu.sizes sz (List.mem_of_getElem? h1)
    have hi : i < (sizes us).length := (List.getElem?_eq_some_iff.mp h1).1
    rw [sizes_len] at hi
    have q0 : 0 ≤ left / sz := Int.ediv_nonneg l0 (by omega)
    have q1 : left / sz ≤ left := Int.ediv_le_self sz l0
    have hleft : left ≤ 3 := by
      have hdn : 0 ≤ dot xs (sizes us) := by
        have gen : ∀ (a b : List Int), nonneg a → (∀ s ∈ b, 1 ≤ s) → 0 ≤ dot a b := by
          intro a
          induction a with
          | nil => intro b _ _; simp [dot]
          | cons x a ih =>
            intro b ha hb2
            cases b with
            | nil => simp [dot]
            | cons y b =>
              have h3 := ih b (fun z hz => ha z (List.mem_cons_of_mem _ hz)) fun s hs => hb2 s (List.mem_cons_of_mem _ hs)
              have h4 := Int.mul_nonneg (ha x (List.mem_cons_self ..)) (show 0 ≤ y by have := hb2 y (List.mem_cons_self ..); omega)
              simp only [dot]
              omega
        exact gen xs _ nx fun s hs => (hu.sizes s hs).1
      omega
    refine ⟨_, rfl, _, rfl, .inl ⟨_, rfl, _, rfl, _, _, rfl, rfl, ⟨by omega, by omega⟩, _, _, rfl, rfl, d, c, l, _, _, rfl, S2, by omega, by omega, by omega, by omega, fun H3 y a0 a1 f3 S3 => ?_⟩⟩
    have t3 := S2.tups f3
    have hy : y * sz ≤ left := by
      have e1 : y * sz ≤ (left / sz) * sz := Int.mul_le_mul_of_nonneg_right (by omega) (by omega)
      have e2 := Int.ediv_mul_le left (b := sz) (by omega)
      omega
    refine ⟨_, rfl, _, rfl, by show 1 ≤ sizeLine; decide, fun u hu2 => ?_⟩
    have s4 := same_new (o := .tup [.int y]) hu2
    have hfa4 := tups s4 _ _ (t3 _ _ hfa)
    have fin : ∀ (G' : Hp) (v : Addr), Same (upd H3 u (.tup [.int y])) G' → TI G' v (xs ++ [y]) → Fr d l H G' ∧ SameT H2 G' ∧ St G' d c l (n + 1 + ((i + 1 : Nat) : Int)) ∧ TI G' v (xs ++ [y]) ∧ (xs ++ [y]).length = i + 1 ∧ nonneg (xs ++ [y]) ∧ 0 ≤ left - y * sz ∧ dot (xs ++ [y]) (sizes us) + (left - y * sz) ≤ 3 := fun G' v sv hv => by
      refine ⟨((f2.trans f3).trans (fr_same s4)).trans (fr_same sv), ((t2.trans t3).trans (tups s4)).trans (tups sv), ?_, hv, by rw [List.length_append, lx]; rfl, ?_, by omega, ?_⟩
      · have e : n + 1 + ((i + 1 : Nat) : Int) = n + 1 + i + 1 := by omega
        rw [e]
        exact (S3.keep s4).keep sv
      · intro w2 hw
        rcases List.mem_append.mp hw with h | h
        · exact nx w2 h
        · rw [List.mem_singleton] at h
          omega
      · rw [dot_snoc xs (sizes us) y sz (by rw [lx]; exact h1)]
        omega
    have hyb : y ≤ 3 := by omega
    refine ⟨fa, u, _, _, rfl, rfl, SqT.of hfa4, SqT.of upd_same, ?_, fun e => ?_, fun _ e => (by cases e), fun _ _ v hv => ?_⟩
    · rw [List.length_map, lx]
      exact Nat.le_of_lt (small60 (by show i + 1 ≤ _; omega))
    · have e2 : xs = [] := List.map_eq_nil_iff.mp e
      subst e2
      obtain ⟨g1, g2, g3, g4, g5, g6, g7, g8⟩ := fin _ u (Same.refl _) upd_same
      exact ⟨_, rfl, _, rfl, _, rfl, _, _, rfl, rfl, .inl ⟨by omega, by omega⟩, _, _, rfl, rfl, _, _, rfl, g1, g2, g3, u, _, _, _, _, g4, g5, g6, g7, g8, rfl⟩
    · obtain ⟨g1, g2, g3, g4, g5, g6, g7, g8⟩ := fin _ v (same_new hv) (by show upd _ v _ v = _; rw [upd_same, List.map_append])
      exact ⟨_, rfl, _, rfl, _, rfl, _, _, rfl, rfl, .inl ⟨by omega, by omega⟩, _, _, rfl, rfl, _, _, rfl, g1, g2, g3, v, _, _, _, _, g4, g5, g6, g7, g8, rfl⟩
  · rintro σ G ⟨f2, t2, S2, fa, xs, left, y1, y2, hfa, lx, nx, l0, hd, rfl⟩
    rw [List.length_map, sizes_len] at lx S2
    refine ⟨_, rfl, k G fa xs _ f2 S2 (by omega) (by omega) hfa ⟨⟨lx, nx⟩, ?_⟩⟩
    rw [tot_sizes lx]
    omega
end
end SR

namespace SR
open PySem PySem.Spec PyProof.Rows L2 SY
/-- how many draws a formula takes at most -/
def bud : Nat → Int
  | 0 => 4
  | k + 1 => 5 + 3 * bud k
theorem bud_pos : ∀ k, 4 ≤ bud k
  | 0 => by simp [bud]
  | k + 1 => by have := bud_pos k; simp only [bud]; omega
section
variable {P : Program} {w : World} {K : PySem.W.Frag} {mg : Str → Option Value} {base : Heap}
def spFormula (b : Nat) : Sp := fun vs H Q _ => ∃ (d c l p : Addr) (n : Int) (us : List Int) (k : Nat), k < b ∧ vs = [.ref d, .ref p, .int (k : Nat), .int 3] ∧ St H d c l n ∧ 0 ≤ n ∧ n + bud k ≤ 900 ∧ TI H p us ∧ Us us ∧ us.length ≤ 2 ∧
  ∀ H' v f m, Fr d l H H' → St H' d c l m → n ≤ m → m ≤ n + bud k → FA H' f v → Dr us k f → Q v H'
theorem ok_formula (D : Df K mg "_law_formula" s_law_formula ["_law_state", "_law_units_so", "_law_deep", "_law_most"]) (B : Bi mg) (F__law_draw : Cl P w K mg base 2 "_law_draw" ["_law_state", "_law_limit"] spDraw)
    (F__law_row : Cl P w K mg base 3 "_law_row" ["_law_state", "_law_units_so", "_law_most"] spRow) : ∀ k : Nat, Cl P w K mg base (k + 4) "_law_formula" ["_law_state", "_law_units_so", "_law_deep", "_law_most"] (spFormula k)
  | 0 => by
    refine cl_of D c_law_formula (fun vs H Q E h => ?_) (fun f cdv A outer s H vs Q E hr h => ?_)
    · obtain ⟨d, c, l, p, n, us, kk, hk, rfl, _⟩ := h
      rfl
    obtain ⟨d, c, l, p, n, us, kk, hk, _⟩ := h
    omega
  | b + 1 => by
    have G := ok_formula D B F__law_draw F__law_row b
    refine cl_of D c_law_formula (fun vs H Q E h => ?_) (fun f cdv A outer s H vs Q E hr h => ?_)
    · obtain ⟨d, c, l, p, n, us, kk, hk, rfl, _⟩ := h
      rfl
    obtain ⟨d, c, l, p, n, us, kq, hk, rfl, S, n0, n1, hp, hu, hl2, k⟩ := h
    refine ⟨_, (pss_cons (ps_set (i := 4) c_law_formula.nd rfl (by first | exact .inl rfl | exact .inr rfl) (pe_ifExp (pt_cmpR op_gt (pv 2) pe_int (by rfl)) (pe_cl F__law_draw hr (by omega) (by rfl) (pa_cons (pv 0) (pa_cons pe_int pa_nil))) pe_int)) (pss_cons (ps_if (pt_cmpR op_lt (pv 4) pe_int (by rfl)) (pss_one (ps_ret (pe_tup (pa_cons pe_str (pa_cons (pe_cl F__law_row hr (by omega) (by rfl) (pa_cons (pv 0) (pa_cons (pv 1) (pa_cons (pv 3) pa_nil)))) pa_nil))))) pss_nil) (pss_cons (ps_set (i := 5) c_law_formula.nd rfl (by first | exact .inl rfl | exact .inr rfl) (pe_ix ix_list (pe_lst (pa_cons pe_str (pa_cons pe_str (pa_cons pe_str pa_nil)))) (pe_op op_sub (pv 4) pe_int) (fun _ _ => rfl))) (pss_cons (ps_set (i := 6) c_law_formula.nd rfl (by first | exact .inl rfl | exact .inr rfl) (pe_ix ix_list (pe_lst (pa_cons pe_int (pa_cons pe_int (pa_cons pe_int (pa_cons pe_int (pa_cons pe_int pa_nil)))))) (pe_cl F__law_draw hr (by omega) (by rfl) (pa_cons (pv 0) (pa_cons pe_int pa_nil))) (fun _ _ => rfl))) (pss_cons (ps_set (i := 6) c_law_formula.nd rfl (by first | exact .inl rfl | exact .inr rfl) (pe_ifExp (pt_cmpR op_eq (pv 5) pe_str (by rfl)) (pe_callB (call_min2 rfl) (by rfl) B.min (by decide +kernel) (pa_cons (pv 6) (pa_cons pe_int pa_nil))) (pv 6))) (pss_one (ps_ret (pe_tup (pa_cons (pv 5) (pa_cons (pe_callTy call_tuple_of (by rfl) B.tup (by decide +kernel) (pa_cons (pe_lc (own := [("_law_step", 7)]) (g := (gName 7)) (tt := tYes) rfl c_law_formula.nd (pi_range1 (by rfl) B.rng (pa_cons (pv 6) pa_nil)) (blkOk_by (N := ["_law_state", "_law_units_so", "_law_deep", "_law_most", "_law_pick", "_law_word", "_law_size", "_law_step"]) (sc := defScope s_law_formula) (by decide +kernel)) (fun _ _ _ _ _ => (pg_name (i := 7) c_law_formula.nd rfl (by first | exact .inl rfl | exact .inr rfl))) (fun _ _ _ _ _ => pts_nil) (fun _ _ _ _ _ => (pe_cl G hr (by omega) (by rfl) (pa_cons (pv 0) (pa_cons (pv 1) (pa_cons (pe_op op_sub (pv 2) pe_int) (pa_cons (pv 3) pa_nil))))))) pa_nil)) pa_nil)))))))))), ?_⟩
    cases kq with
    | zero =>
    refine ⟨_, rfl, _, _, rfl, rfl, _, rfl, ?_⟩
    rw [decide_eq_false (by omega)]
    refine iteF ⟨_, rfl, _, _, rfl, rfl, _, rfl, ?_⟩
    have S1 := S
    have f1 := Fr.refl d l H
    have t1 := SameT.refl H
    simp only [bud] at n1
    rw [decide_eq_true (by omega)]
    refine iteT ⟨_, rfl, _, rfl, _, rfl, d, c, l, p, _, us, rfl, S1, by omega, by omega, t1 _ _ hp, hu, hl2, fun H2 t r m f2 S2 m0 m1 ht hdr => ⟨by show 2 ≤ sizeLine; decide, fun z hz => ?_⟩⟩
    have s3 := same_new (o := .tup [.str "row", .ref t]) hz
    refine k _ _ (.row r) m ((f1.trans f2).trans (fr_same s3)) (S2.keep s3) (by omega) (by simp only [bud]; omega) ?_ ?_
    · simp only [FA]
      exact ⟨z, t, rfl, upd_same, s3 _ _ ht⟩
    · simp only [Dr]
      exact hdr
    | succ kk =>
    have bp := bud_pos kk
    simp only [bud] at n1
    refine ⟨_, rfl, _, _, rfl, rfl, _, rfl, ?_⟩
    rw [decide_eq_true (by omega)]
    refine iteT ⟨_, rfl, d, c, l, n, 5, rfl, S, n0, by omega, by decide, by decide, fun H1 r r0 r1 f1 S1 => ?_⟩
    have t1 := S.tups f1
    refine ⟨_, rfl, _, _, rfl, rfl, _, rfl, ?_⟩
    by_cases hr2 : r < 2
    · rw [decide_eq_true hr2]
      refine iteT ⟨_, rfl, _, rfl, _, rfl, d, c, l, p, _, us, rfl, S1, by omega, by omega, t1 _ _ hp, hu, hl2, fun H2 t r m f2 S2 m0 m1 ht hdr => ⟨by show 2 ≤ sizeLine; decide, fun z hz => ?_⟩⟩
      have s3 := same_new (o := .tup [.str "row", .ref t]) hz
      refine k _ _ (.row r) m ((f1.trans f2).trans (fr_same s3)) (S2.keep s3) (by omega) (by simp only [bud]; omega) ?_ ?_
      · simp only [FA]
        exact ⟨z, t, rfl, upd_same, s3 _ _ ht⟩
      · simp only [Dr]
        exact hdr
    · rw [decide_eq_false hr2]
      obtain ⟨wd, hwd⟩ : ∃ wd : Wd, atI [V.str "together", .str "any", .str "one"] (r - 2) = some (.str (wdS wd)) := by
        have : r = 2 ∨ r = 3 ∨ r = 4 := by omega
        rcases this with e | e | e
        · subst e; exact ⟨.tog, rfl⟩
        · subst e; exact ⟨.any, rfl⟩
        · subst e; exact ⟨.one, rfl⟩
      refine iteF ⟨by show 3 ≤ sizeLine; decide, fun t ht => ?_⟩
      have s2 := same_new (o := .lst [V.str "together", .str "any", .str "one"]) ht
      refine ⟨_, rfl, _, _, rfl, rfl, t, _, _, _, rfl, rfl, SqL.of upd_same, hwd, ?_⟩
      refine ⟨by show 5 ≤ sizeLine; decide, fun t2 ht2 => ?_⟩
      have s3 := s2.trans (same_new (o := .lst [V.int 2, .int 2, .int 1, .int 3, .int 0]) ht2)
      refine ⟨_, rfl, d, c, l, _, 5, rfl, S1.keep s3, by omega, by omega, by decide, by decide, fun H3 r2 r20 r21 f3 S3 => ?_⟩
      have f4 := (f1.trans (fr_same s3)).trans f3
      have t4 := (t1.trans (tups s3)).trans ((S1.keep s3).tups f3)
      have hn2 := (S1.keep s2).fresh ht2
      have hl3 : H3 t2 = some (.lst [V.int 2, .int 2, .int 1, .int 3, .int 0]) := f3 _ _ hn2.1 hn2.2.2 upd_same
      obtain ⟨sz, hsz, z0, z3⟩ : ∃ sz : Int, atI [V.int 2, .int 2, .int 1, .int 3, .int 0] r2 = some (.int sz) ∧ 0 ≤ sz ∧ sz ≤ 3 := by
        have : r2 = 0 ∨ r2 = 1 ∨ r2 = 2 ∨ r2 = 3 ∨ r2 = 4 := by omega
        rcases this with e | e | e | e | e <;> subst e
        · exact ⟨2, rfl, by decide, by decide⟩
        · exact ⟨2, rfl, by decide, by decide⟩
        · exact ⟨1, rfl, by decide, by decide⟩
        · exact ⟨3, rfl, by decide, by decide⟩
        · exact ⟨0, rfl, by decide, by decide⟩
      have S4 : St H3 d c l (n + 2) := by
        have e : n + 2 = n + 1 + 1 := by omega
        rw [e]
        exact S3
      refine ⟨t2, _, _, _, rfl, rfl, SqL.of hl3, hsz, ?_⟩
      refine ⟨_, rfl, rfl, _, rfl, ?_⟩
      by_cases ht : wd = .tog
      · subst ht
        refine iteT ⟨_, rfl, _, _, rfl, ?_⟩
        have m2 : (if 2 < sz then 2 else sz) ≤ 2 ∧ 0 ≤ (if 2 < sz then 2 else sz) := by split <;> omega
        generalize (if 2 < sz then 2 else sz) = s2z at m2
        refine ⟨_, rfl, _, rfl, _, rfl, by omega, by omega, fun D0 hD => ?_⟩
        have hn := S4.fresh hD
        have hH : H D0 = none := by
          cases q : H D0 with
          | none => rfl
          | some o => rw [f4 _ _ hn.1 hn.2.2 q] at hD; cases hD
        refine lc_it (walk_range (n := (s2z : Int).toNat)) (fun i G => Fr d l H G ∧ SameT H G ∧ ∃ (m : Int) (vs : List V) (fs : List Form), St G d c l m ∧ n + 2 ≤ m ∧ m ≤ n + 2 + i * bud kk ∧ G D0 = some (.lst vs) ∧ FAs G fs vs ∧ fs.length = i ∧ ∀ f ∈ fs, Dr us kk f)
          ⟨fr_wr f4 hH, t4.trans (tups (same_new hD)), n + 2, [], [], S4.wr hn, by omega, by omega, upd_same, (by simp only [FAs]), rfl, fun f h => by cases h⟩ (fun _ _ _ _ => trivial) ?_ ?_
        · rintro i x G G' hi ⟨f5, t5, m, vs, fs, S5, m0, m1, hG, hfs, lf, hdr⟩ ⟨rfl, rfl⟩
          have hi3 : i ≤ 2 := by omega
          have hib : (i : Int) * bud kk ≤ 2 * bud kk := Int.mul_le_mul_of_nonneg_right (by omega) (by omega)
          refine ⟨rfl, _, rfl, _, rfl, _, rfl, _, _, rfl, rfl, _, rfl, d, c, l, p, m, us, kk, by omega, ?_, S5, by omega, by omega, t5 _ _ hp, hu, hl2, fun H6 v f m6 f6 S6 m60 m61 fv dv => ?_⟩
          · show [V.ref d, V.ref p, V.int (((kk + 1 : Nat) : Int) - 1), V.int 3] = _
            rw [show (((kk + 1 : Nat) : Int) - 1) = (kk : Int) by omega]
          have h6 := f6 _ _ hn.1 hn.2.2 hG
          have t6 := S5.tups f6
          have s6 : SameT H6 (upd H6 D0 (.lst (vs ++ [v]))) := fun b xs h => by
            rw [upd_ne (fun q => by rw [q, h6] at h; cases h)]
            exact h
          refine ⟨_, h6, by rw [hfs.len, lf]; exact small60 (by omega), fr_wr (f5.trans f6) hH, (t5.trans t6).trans s6, m6, vs ++ [v], fs ++ [f], S6.wr hn, by omega, ?_, upd_same, ?_, by rw [List.length_append, lf]; rfl, ?_⟩
          · rw [show ((i + 1 : Nat) : Int) = (i : Int) + 1 by omega, Int.add_mul]
            omega
          · exact (FAs.keep s6 _ _ (FAs.keep t6 _ _ hfs)).snoc (FA.keep s6 _ _ fv)
          · intro g hg
            rcases List.mem_append.mp hg with h | h
            · exact hdr g h
            · rw [List.mem_singleton] at h
              subst h
              exact dv
        · rintro G ⟨f5, t5, m, vs, fs, S5, m0, m1, hG, hfs, lf, hdr⟩
          refine ⟨D0, _, rfl, .inl ⟨SqL.of hG, fun q hq => ⟨by show 2 ≤ sizeLine; decide, fun z hz => ?_⟩⟩⟩
          have s6 := same_new (o := .tup vs) hq
          have s7 := same_new (o := .tup [.str (wdS .tog), .ref q]) hz
          have s8 := s6.trans s7
          have lf3 : fs.length ≤ 3 := by rw [lf]; omega
          have hib : ((s2z : Int).toNat : Int) * bud kk ≤ 3 * bud kk := Int.mul_le_mul_of_nonneg_right (by omega) (by omega)
          refine k _ _ (.node .tog fs) m (f5.trans (fr_same s8)) (S5.keep s8) (by omega) (by simp only [bud]; omega) ?_ ?_
          · simp only [FA]
            exact ⟨z, q, vs, rfl, upd_same, s7 _ _ upd_same, FAs.keep (tups s8) _ _ hfs⟩
          · simp only [Dr]
            exact ⟨lf3, fun _ => by omega, hdr⟩
      · have e1 : decide (V.str (wdS wd) = V.str "together") = false := by
          cases wd with
          | tog => exact absurd rfl ht
          | _ => rfl
        rw [e1]
        refine iteF ⟨_, rfl, ?_⟩
        refine ⟨_, rfl, _, rfl, _, rfl, by omega, by omega, fun D0 hD => ?_⟩
        have hn := S4.fresh hD
        have hH : H D0 = none := by
          cases q : H D0 with
          | none => rfl
          | some o => rw [f4 _ _ hn.1 hn.2.2 q] at hD; cases hD
        refine lc_it (walk_range (n := (sz : Int).toNat)) (fun i G => Fr d l H G ∧ SameT H G ∧ ∃ (m : Int) (vs : List V) (fs : List Form), St G d c l m ∧ n + 2 ≤ m ∧ m ≤ n + 2 + i * bud kk ∧ G D0 = some (.lst vs) ∧ FAs G fs vs ∧ fs.length = i ∧ ∀ f ∈ fs, Dr us kk f)
          ⟨fr_wr f4 hH, t4.trans (tups (same_new hD)), n + 2, [], [], S4.wr hn, by omega, by omega, upd_same, (by simp only [FAs]), rfl, fun f h => by cases h⟩ (fun _ _ _ _ => trivial) ?_ ?_
        · rintro i x G G' hi ⟨f5, t5, m, vs, fs, S5, m0, m1, hG, hfs, lf, hdr⟩ ⟨rfl, rfl⟩
          have hi3 : i ≤ 2 := by omega
          have hib : (i : Int) * bud kk ≤ 2 * bud kk := Int.mul_le_mul_of_nonneg_right (by omega) (by omega)
          refine ⟨rfl, _, rfl, _, rfl, _, rfl, _, _, rfl, rfl, _, rfl, d, c, l, p, m, us, kk, by omega, ?_, S5, by omega, by omega, t5 _ _ hp, hu, hl2, fun H6 v f m6 f6 S6 m60 m61 fv dv => ?_⟩
          · show [V.ref d, V.ref p, V.int (((kk + 1 : Nat) : Int) - 1), V.int 3] = _
            rw [show (((kk + 1 : Nat) : Int) - 1) = (kk : Int) by omega]
          have h6 := f6 _ _ hn.1 hn.2.2 hG
          have t6 := S5.tups f6
          have s6 : SameT H6 (upd H6 D0 (.lst (vs ++ [v]))) := fun b xs h => by
            rw [upd_ne (fun q => by rw [q, h6] at h; cases h)]
            exact h
          refine ⟨_, h6, by rw [hfs.len, lf]; exact small60 (by omega), fr_wr (f5.trans f6) hH, (t5.trans t6).trans s6, m6, vs ++ [v], fs ++ [f], S6.wr hn, by omega, ?_, upd_same, ?_, by rw [List.length_append, lf]; rfl, ?_⟩
          · rw [show ((i + 1 : Nat) : Int) = (i : Int) + 1 by omega, Int.add_mul]
            omega
          · exact (FAs.keep s6 _ _ (FAs.keep t6 _ _ hfs)).snoc (FA.keep s6 _ _ fv)
          · intro g hg
            rcases List.mem_append.mp hg with h | h
            · exact hdr g h
            · rw [List.mem_singleton] at h
              subst h
              exact dv
        · rintro G ⟨f5, t5, m, vs, fs, S5, m0, m1, hG, hfs, lf, hdr⟩
          refine ⟨D0, _, rfl, .inl ⟨SqL.of hG, fun q hq => ⟨by show 2 ≤ sizeLine; decide, fun z hz => ?_⟩⟩⟩
          have s6 := same_new (o := .tup vs) hq
          have s7 := same_new (o := .tup [.str (wdS wd), .ref q]) hz
          have s8 := s6.trans s7
          have lf3 : fs.length ≤ 3 := by rw [lf]; omega
          have hib : ((sz : Int).toNat : Int) * bud kk ≤ 3 * bud kk := Int.mul_le_mul_of_nonneg_right (by omega) (by omega)
          refine k _ _ (.node wd fs) m (f5.trans (fr_same s8)) (S5.keep s8) (by omega) (by simp only [bud]; omega) ?_ ?_
          · simp only [FA]
            exact ⟨z, q, vs, rfl, upd_same, s7 _ _ upd_same, FAs.keep (tups s8) _ _ hfs⟩
          · simp only [Dr]
            exact ⟨lf3, fun h => absurd h ht, hdr⟩
end
end SR

namespace SR
open PySem PySem.Spec PyProof.Rows L2 SY
theorem walk_rng0 {n : Nat} : Walk (Itr 0 n) n (fun _ => True) (fun i H x H' => H' = H ∧ x = .int (i : Nat)) :=
  walk_range.mono (fun _ h => h) fun i H x H' _ _ y => ⟨y.1, by rw [y.2]; show V.int (0 + (i : Nat)) = _; rw [Int.zero_add]⟩
theorem cut_set : ∀ (us x : List Int) (i : Nat) (u z y : Int), us[i]? = some u → x[i]? = some z → x[i + 1]? = some y → cutAt us i x = (x.set i (z - 1)).set (i + 1) (y + u)
  | [], _, _, _, _, _, h, _, _ => by simp at h
  | _ :: _, [], _, _, _, _, _, h, _ => by simp at h
  | _ :: _, [a], 0, _, _, _, _, _, h => by simp at h
  | v :: us, a :: b :: r, 0, u, z, y, h1, h2, h3 => by
    simp at h1 h2 h3
    subst h1 h2 h3
    rfl
  | v :: us, a :: r, i + 1, u, z, y, h1, h2, h3 => by
    simp only [cutAt, List.set_cons_succ]
    rw [cut_set us r i u z y (by simpa using h1) (by simpa using h2) (by simpa using h3)]
/-- the entry of a row that was seen -/
def kvOf (r : List Int) : List Key × V := (r.map Sum.inl, .bl true)
theorem kv_ints (r : List Int) : (r.map (Sum.inl : Int → Key)).map kV = r.map V.int := by
  rw [List.map_map]
  rfl
theorem kv_inj : ∀ {a b : List Int}, a.map (Sum.inl : Int → Key) = b.map Sum.inl → a = b
  | [], [], _ => rfl
  | x :: xs, y :: ys, h => by
    simp only [List.map_cons, List.cons.injEq, Sum.inl.injEq] at h
    rw [h.1, kv_inj h.2]
  | [], _ :: _, h => by simp at h
  | _ :: _, [], h => by simp at h
theorem kv_any (L : List (List Int)) (x : List Int) : ((L.map kvOf).any fun kv => decide (kv.1 = x.map Sum.inl)) = decide (x ∈ L) := by
  rw [List.any_map, Bool.eq_iff_iff, List.any_eq_true, decide_eq_true_eq]
  constructor
  · rintro ⟨y, hy, h⟩
    have h := of_decide_eq_true h
    rw [← kv_inj h]
    exact hy
  · intro h
    exact ⟨x, h, by simp [kvOf]⟩
theorem kv_seen (L : List (List Int)) (x : List Int) : (valV (L.map kvOf) (x.map Sum.inl)).isSome = decide (x ∈ L) := by
  rw [← valV_any]
  exact kv_any L x
theorem kv_put {L : List (List Int)} {x : List Int} (h : x ∉ L) : putK (L.map kvOf) (x.map Sum.inl) (.bl true) = (L ++ [x]).map kvOf := by
  unfold putK
  rw [kv_any, decide_eq_false h, if_neg Bool.false_ne_true, List.map_append]
  rfl
/-- the cuts found so far -/
structure CI (H0 G : Hp) (fl sd : Addr) (us r : List Int) (L : List (List Int)) (as : List Addr) : Prop where
  sm : Same H0 G
  fd : G fl = some (.lst (as.map V.ref))
  R : Rows G as L
  seen : G sd = some (.dT (L.map kvOf))
  nd : L.Nodup
  reach : ∀ x ∈ L, Reach us r x
  has : r ∈ L
theorem CI.keep {H0 G G' : Hp} {fl sd : Addr} {us r : List Int} {L : List (List Int)} {as : List Addr} (I : CI H0 G fl sd us r L as) (s : Same G G') : CI H0 G' fl sd us r L as :=
  ⟨I.sm.trans s, s _ _ I.fd, I.R.keep (tups s), s _ _ I.seen, I.nd, I.reach, I.has⟩
/-- the rows before the k-th are done -/
def Done (us : List Int) (L : List (List Int)) (k : Nat) : Prop := ∀ (j : Nat) (x : List Int) (i : Nat) (z : Int), j < k → L[j]? = some x → i < us.length → x[i]? = some z → 0 < z → cutAt us i x ∈ L
section
variable {P : Program} {w : World} {K : PySem.W.Frag} {mg : Str → Option Value} {base : Heap}
def spCuts : Sp := fun vs H Q _ => ∃ (p q : Addr) (us r : List Int), vs = [.ref p, .ref q] ∧ TI H p us ∧ Us us ∧ us.length ≤ 2 ∧ TI H q r ∧ VR us r ∧ tot us r ≤ 40 ∧
  ∀ H' fl L as, Same H H' → H' fl = some (.lst (as.map V.ref)) → Rows H' as L → (∀ x, x ∈ L ↔ Reach us r x) → L.length ≤ 68921 → Q (.ref fl) H'
theorem ok_cuts (D : Df K mg "_law_cuts" s_law_cuts ["_law_units_so", "_law_row_here"]) (B : Bi mg) : Cl P w K mg base 1 "_law_cuts" ["_law_units_so", "_law_row_here"] spCuts := by
  refine cl_of D c_law_cuts (fun vs H Q E h => ?_) (fun f cdv A outer s H vs Q E hr h => ?_)
  · obtain ⟨p, q, us, r, rfl, _⟩ := h
    rfl
  obtain ⟨p, q, us, r, rfl, hp, hu, hl2, hq, vr, ht, k⟩ := h
  refine ⟨_, (pss_cons (ps_par3 (i := 2) (j := 3) (l := 4) rfl c_law_cuts.nd rfl rfl rfl (by decide) (by decide) (by decide) rfl rfl rfl (pa_cons (pe_lst (pa_cons (pv 1) pa_nil)) (pa_cons (pe_dispT (Room.u0 hr) (pv 1) pe_bl) (pa_cons pe_int pa_nil))) (by rfl)) (pss_cons (ps_while PassesOwn.never (pt_cmpR op_lt (pv 4) (pe_callB call_len_seq (by rfl) B.len PySem.boot_len (pa_cons (pv 2) pa_nil)) (by rfl)) (pss_cons (ps_par (i := 5) (j := 4) rfl c_law_cuts.nd rfl rfl (by decide) rfl rfl (pa_cons (pe_ix ix_list (pv 2) (pv 4) (fun _ _ => rfl)) (pa_cons (pe_op op_add (pv 4) pe_int) pa_nil)) (by rfl)) (pss_one (ps_for PassesOwn.never rfl (pi_range1 (by rfl) B.rng (pa_cons (pe_callB call_len_seq (by rfl) B.len PySem.boot_len (pa_cons (pv 0) pa_nil)) pa_nil)) (pg_name (i := 6) c_law_cuts.nd rfl (by first | exact .inl rfl | exact .inr rfl)) (pss_one (ps_if (pt_cmpR op_gt (pe_ix ix_tup (pv 5) (pv 6) (fun _ _ => rfl)) pe_int (by rfl)) (pss_cons (ps_set (i := 7) c_law_cuts.nd rfl (by first | exact .inl rfl | exact .inr rfl) (pe_callTy call_list_of (by rfl) B.lst (by decide +kernel) (pa_cons (pv 5) pa_nil))) (pss_cons (ps_asg (pe_op op_sub (pe_ix ix_list (pv 7) (pv 6) (fun _ _ => rfl)) pe_int) (pg_sub (pv 7) (pv 6) set_list)) (pss_cons (ps_asg (pe_op op_add (pe_ix ix_list (pv 7) (pe_op op_add (pv 6) pe_int) (fun _ _ => rfl)) (pe_ix ix_tup (pv 0) (pv 6) (fun _ _ => rfl))) (pg_sub (pv 7) (pe_op op_add (pv 6) pe_int) set_list)) (pss_one (ps_if (pt_cmp (pc_dnotin (Room.u1 hr) (pe_callTy call_tuple_of (by rfl) B.tup (by decide +kernel) (pa_cons (pv 7) pa_nil)) (pv 3))) (pss_cons (ps_dput (Room.u1 hr) (pv 3) (pe_callTy call_tuple_of (by rfl) B.tup (by decide +kernel) (pa_cons (pv 7) pa_nil)) pe_bl rfl) (pss_one (ps_expr (pe_bm PySem.F.plainAttrs_list PySem.F.slot_list_append PySem.F.type_list_append mt_append (pv 2) (pa_cons (pe_callTy call_tuple_of (by rfl) B.tup (by decide +kernel) (pa_cons (pv 7) pa_nil)) pa_nil))))) pss_nil))))) pss_nil)))))) (pss_one (ps_ret (pv 2))))), ?_⟩
  have few : ∀ {H0 G : Hp} {fl sd : Addr} {L : List (List Int)} {as : List Addr}, CI H0 G fl sd us r L as → L.length ≤ 68921 := fun I => reach_few hu.pos vr ht hl2 I.nd I.reach
  have hus := hu.1
  refine ⟨_, rfl, by show 1 ≤ sizeLine; decide, fun fl hfl sd hsd => ?_⟩
  have s1 := same_new (o := .lst [.ref q]) hfl
  have s2 := s1.trans (same_new (o := .dT []) hsd)
  have nfs : fl ≠ sd := fun e => by rw [← e, upd_same] at hsd; cases hsd
  have hH : H sd = none := none_of s1 hsd
  refine ⟨_, rfl, upd_same, q, r.map Sum.inl, rfl, by rw [kv_ints]; exact s2 _ _ hq, _, _, _, rfl, ?_⟩
  have s3 := same_wr s2 (o := .dT [(r.map Sum.inl, .bl true)]) hH
  have I0 : CI H (upd (upd (upd H fl (.lst [.ref q])) sd (.dT [])) sd (.dT [(r.map Sum.inl, .bl true)])) fl sd us r [r] [q] :=
    ⟨s3, by rw [upd_ne nfs, upd_ne nfs, upd_same]; rfl, .one (s3 _ _ hq), upd_same, by simp, fun x hx => by rw [List.mem_singleton] at hx; subst hx; exact .refl, List.mem_singleton.mpr rfl⟩
  refine ⟨fun m σ G => ∃ (k : Nat) (L : List (List Int)) (as : List Addr) (y1 y2 y3 : Option V), m = 70000 - k ∧ k ≤ L.length ∧ CI H G fl sd us r L as ∧ Done us L k ∧ σ = [some (.ref p), some (.ref q), some (.ref fl), some (.ref sd), some (.int k), y1, y2, y3],
    ⟨_, 0, _, _, none, none, none, rfl, Nat.zero_le _, I0, fun j x i z hj => absurd hj (Nat.not_lt_zero _), rfl⟩, ?_⟩
  rintro m σ G ⟨n, L, as, y1, y2, y3, rfl, hn, I, dn, rfl⟩
  have eas := I.R.len
  refine ⟨_, rfl, _, rfl, fl, _, rfl, .inl (SqL.of I.fd), _, _, rfl, rfl, _, rfl, ?_⟩
  rw [List.length_map, eas]
  by_cases hlt : n < L.length
  · rw [decide_eq_true (by omega)]
    obtain ⟨x, hx⟩ : ∃ x, L[n]? = some x := ⟨_, List.getElem?_eq_getElem hlt⟩
    obtain ⟨a, ha⟩ : ∃ a, as[n]? = some a := ⟨_, List.getElem?_eq_getElem (by omega)⟩
    have vx := (reach_vr hu.pos vr (I.reach x (List.mem_of_getElem? hx))).1
    have hxa : (as.map V.ref)[n]? = some (.ref a) := by rw [List.getElem?_map, ha]; rfl
    have fin0 := few I
    refine iteT ⟨fun σ G => ∃ (L : List (List Int)) (as : List Addr) (y1 y2 y3 : Option V), n + 1 ≤ L.length ∧ CI H G fl sd us r L as ∧ Done us L (n + 1) ∧ σ = [some (.ref p), some (.ref q), some (.ref fl), some (.ref sd), some (.int (n + 1 : Nat)), y1, y2, y3],
      fun σ' G' ⟨L', as', z1, z2, z3, q1, q2, q3, q4⟩ => ⟨70000 - (n + 1), by omega, n + 1, L', as', z1, z2, z3, rfl, q1, q2, q3, q4⟩, ?_⟩
    refine ⟨_, rfl, _, rfl, fl, _, _, _, rfl, rfl, SqL.of I.fd, atI_nat hxa, _, rfl, _, _, rfl, rfl, _, _, rfl, ?_⟩
    refine ⟨_, rfl, p, _, rfl, .inr (SqT.of (I.sm _ _ hp)), (us.length : Int), by rw [List.length_map], by omega, by omega, ?_⟩
    have e1 : ((us.length : Int)).toNat = us.length := by omega
    rw [e1]
    refine for_it walk_rng0 (fun i σ G => ∃ (L : List (List Int)) (as : List Addr) (y2 y3 : Option V), n + 1 ≤ L.length ∧ L[n]? = some x ∧ as[n]? = some a ∧ CI H G fl sd us r L as ∧ Done us L n ∧ (∀ (j : Nat) (z : Int), j < i → x[j]? = some z → 0 < z → cutAt us j x ∈ L) ∧
      σ = [some (.ref p), some (.ref q), some (.ref fl), some (.ref sd), some (.int (n + 1 : Nat)), some (.ref a), y2, y3])
      ⟨L, as, y2, y3, hlt, hx, ha, I, dn, fun j z hj => absurd hj (Nat.not_lt_zero _), rfl⟩ (fun _ _ _ _ _ => trivial) ?_ ?_
    · rintro i v σ2 G2 G3 hi ⟨L, as, y2, y3, hn1, hx, ha, I, dn, cl, rfl⟩ ⟨rfl, rfl⟩
      have tx : TI G3 a x := I.R.at_ n a x ha hx
      have lx := vx.1
      obtain ⟨z, hz⟩ : ∃ z, x[i]? = some z := ⟨_, List.getElem?_eq_getElem (by omega)⟩
      obtain ⟨y, hy⟩ : ∃ y, x[i + 1]? = some y := ⟨_, List.getElem?_eq_getElem (by omega)⟩
      obtain ⟨u, hu2⟩ : ∃ u, us[i]? = some u := ⟨_, List.getElem?_eq_getElem hi⟩
      refine ⟨_, rfl, _, rfl, a, _, _, _, rfl, rfl, SqT.of tx, atI_nat (at_intI hz), _, _, rfl, rfl, _, rfl, ?_⟩
      by_cases h0 : 0 < z
      · rw [decide_eq_true h0]
        refine iteT ⟨_, rfl, a, _, rfl, .inr (SqT.of tx), fun nl hnl => ?_⟩
        have s4 := same_new (o := .lst (x.map V.int)) hnl
        have nH : H nl = none := none_of I.sm hnl
        -- near[place] = near[place] - 1
        refine ⟨_, rfl, _, rfl, nl, _, _, _, rfl, rfl, SqL.of upd_same, atI_nat (at_intI hz), _, _, rfl, rfl, _, rfl, _, rfl, nl, _, _, i, rfl, rfl, upd_same, ?_, ?_⟩
        · unfold ixN
          rw [List.length_map, if_pos (by omega), if_pos (by omega)]
          rfl
        have e5 : ((x.map V.int).set i (.int (z - 1))) = (x.set i (z - 1)).map V.int := by rw [List.map_set]
        rw [e5]
        have hy2 : (x.set i (z - 1))[i + 1]? = some y := by rw [List.getElem?_set_ne (by omega)]; exact hy
        have s5 : Same G3 (upd (upd G3 nl (.lst (x.map V.int))) nl (.lst ((x.set i (z - 1)).map V.int))) := same_wr s4 hnl
        have s6 : Same G3 (upd (upd (upd G3 nl (.lst (x.map V.int))) nl (.lst ((x.set i (z - 1)).map V.int))) nl (.lst ((cutAt us i x).map V.int))) := same_wr s5 hnl
        refine ⟨_, rfl, _, rfl, _, _, rfl, rfl, nl, _, _, _, rfl, rfl, SqL.of upd_same, at_of (j := i + 1) (by omega) (at_intI hy2), ?_⟩
        refine ⟨_, rfl, _, rfl, p, _, _, _, rfl, rfl, SqT.of (s5 _ _ (I.sm _ _ hp)), atI_nat (at_intI hu2), _, _, rfl, rfl, _, rfl, _, rfl, _, _, rfl, rfl, nl, _, _, i + 1, rfl, rfl, upd_same, ?_, ?_⟩
        · unfold ixN
          rw [List.length_map, List.length_set, if_pos (by omega), if_pos (by omega)]
          congr 1
        have e6 : (((x.set i (z - 1)).map V.int).set (i + 1) (.int (y + u))) = (cutAt us i x).map V.int := by rw [cut_set us x i u z y hu2 hz hy]; simp only [List.map_set]
        rw [e6]
        have hn4 : upd (upd (upd G3 nl (.lst (x.map V.int))) nl (.lst ((x.set i (z - 1)).map V.int))) nl (.lst ((cutAt us i x).map V.int)) nl = some (.lst ((cutAt us i x).map V.int)) := upd_same
        generalize upd (upd (upd G3 nl (.lst (x.map V.int))) nl (.lst ((x.set i (z - 1)).map V.int))) nl (.lst ((cutAt us i x).map V.int)) = G4 at s6 hn4
        have I4 := I.keep s6
        have nsn : nl ≠ sd := fun e => by rw [e, I4.seen] at hn4; cases hn4
        have nfn : nl ≠ fl := fun e => by
          have q1 := I.fd
          rw [← e, hnl] at q1
          cases q1
        refine ⟨_, rfl, nl, _, rfl, .inl ⟨SqL.of hn4, fun t1 ht1 => ⟨_, rfl, sd, _, rfl, DGet.t (k := (cutAt us i x).map Sum.inl) (same_new ht1 _ _ I4.seen) (by rw [kv_ints]; exact upd_same), _, rfl, ?_⟩⟩⟩
        rw [kv_seen]
        have s7 := same_new (o := .tup ((cutAt us i x).map V.int)) ht1
        by_cases hc : cutAt us i x ∈ L
        · rw [decide_eq_true hc]
          refine iteF ⟨L, as, _, _, hn1, hx, ha, I4.keep s7, dn, fun j z' hj hz' h0' => ?_, rfl⟩
          by_cases hji : j < i
          · exact cl j z' hji hz' h0'
          · have : j = i := by omega
            subst this
            exact hc
        · rw [decide_eq_false hc]
          refine iteT ⟨_, rfl, _, rfl, nl, _, rfl, .inl ⟨SqL.of (s7 _ _ hn4), fun t2 ht2 => ?_⟩⟩
          have s8 := same_new (o := .tup ((cutAt us i x).map V.int)) ht2
          have I6 := (I4.keep s7).keep s8
          have lf := few I6
          refine ⟨sd, _, rfl, DPut.t (k := (cutAt us i x).map Sum.inl) I6.seen (by rw [kv_ints]; exact upd_same) (by rw [List.length_map]; exact small60 (by omega)), ?_⟩
          rw [kv_put hc]
          have hn6 := s8 _ _ (s7 _ _ hn4)
          have hf6 := I6.fd
          have R6 := I6.R
          have sm6 := I6.sm
          have se6 := I6.seen
          generalize upd (upd G4 t1 (.tup ((cutAt us i x).map V.int))) t2 (.tup ((cutAt us i x).map V.int)) = G6 at I6 hn6 hf6 R6 sm6 se6
          have T7 : SameT G6 (upd G6 sd (.dT ((L ++ [cutAt us i x]).map kvOf))) := fun b xs e => by
            rw [upd_ne (fun q => by rw [q, se6] at e; cases e)]
            exact e
          have hn7 : upd G6 sd (.dT ((L ++ [cutAt us i x]).map kvOf)) nl = some (.lst ((cutAt us i x).map V.int)) := by rw [upd_ne nsn]; exact hn6
          have hf7 : upd G6 sd (.dT ((L ++ [cutAt us i x]).map kvOf)) fl = some (.lst (as.map V.ref)) := by rw [upd_ne nfs]; exact hf6
          refine ⟨_, rfl, .inl ⟨rfl, _, SqL.of hf7⟩, _, rfl, nl, _, rfl, .inl ⟨SqL.of hn7, fun t3 ht3 => ⟨fl, _, _, rfl, rfl, same_new ht3 _ _ hf7, ?_, ?_⟩⟩⟩
          · rw [List.length_map, I6.R.len]
            exact small60 (by omega)
          have s9 := same_new (o := .tup ((cutAt us i x).map V.int)) ht3
          have hf8 := s9 _ _ hf7
          have T9 : SameT (upd (upd G6 sd (.dT ((L ++ [cutAt us i x]).map kvOf))) t3 (.tup ((cutAt us i x).map V.int))) (upd (upd (upd G6 sd (.dT ((L ++ [cutAt us i x]).map kvOf))) t3 (.tup ((cutAt us i x).map V.int))) fl (.lst (as.map V.ref ++ [.ref t3]))) := fun b xs e => by
            rw [upd_ne (fun q => by rw [q, hf8] at e; cases e)]
            exact e
          have hl6 := I6.R.len
          refine ⟨L ++ [cutAt us i x], as ++ [t3], _, _, by rw [List.length_append]; omega, by rw [List.getElem?_append_left (by omega)]; exact hx, by rw [List.getElem?_append_left (by omega)]; exact ha, ?_, fun j x' i' z' h1 h2 h3 h4 h5 => ?_, fun j z' hj hz' h0' => ?_, rfl⟩
          · refine ⟨same_wr ((same_wr sm6 hH).trans s9) hfl, by rw [upd_same, List.map_append]; rfl, (((R6.keep T7).keep (tups s9)).keep T9).snoc (T9 _ _ upd_same), ?_, ?_, ?_, List.mem_append_left _ I6.has⟩
            · rw [upd_ne (Ne.symm nfs)]
              exact s9 _ _ upd_same
            · refine List.nodup_append.mpr ⟨I6.nd, by simp, fun b hb c hc2 => ?_⟩
              rw [List.mem_singleton] at hc2
              subst hc2
              exact fun e => hc (e ▸ hb)
            · intro b hb
              rcases List.mem_append.mp hb with h | h
              · exact I6.reach b h
              · rw [List.mem_singleton] at h
                subst h
                exact .cut (I6.reach x (List.mem_of_getElem? hx)) hi hz h0
          · refine List.mem_append_left _ (dn j x' i' z' h1 ?_ h3 h4 h5)
            rw [List.getElem?_append_left (by omega)] at h2
            exact h2
          · by_cases hji : j < i
            · exact List.mem_append_left _ (cl j z' hji hz' h0')
            · have : j = i := by omega
              subst this
              exact List.mem_append_right _ (List.mem_singleton.mpr rfl)
      · rw [decide_eq_false h0]
        refine iteF ⟨L, as, _, _, hn1, hx, ha, I, dn, fun j z' hj hz' h0' => ?_, rfl⟩
        by_cases hji : j < i
        · exact cl j z' hji hz' h0'
        · have : j = i := by omega
          subst this
          rw [hz] at hz'
          cases hz'
          exact absurd h0' h0
    · rintro σ2 G2 ⟨L, as, y2, y3, hn1, hx, ha, I, dn, cl, rfl⟩
      refine ⟨L, as, _, _, _, hn1, I, fun j x' i z hj hx' hi hz h0 => ?_, rfl⟩
      by_cases hjn : j < n
      · exact dn j x' i z hjn hx' hi hz h0
      · have : j = n := by omega
        subst this
        rw [hx] at hx'
        cases hx'
        exact cl i z hi hz h0
  · rw [decide_eq_false (by omega)]
    refine iteF ⟨_, rfl, k G fl L as I.sm I.fd I.R (fun x => ⟨I.reach x, fun h => ?_⟩) (few I)⟩
    induction h with
    | refl => exact I.has
    | cut hc hk hz h0 ih =>
      obtain ⟨j, hj⟩ := List.getElem?_of_mem ih
      have hjl := (List.getElem?_eq_some_iff.mp hj).1
      exact dn j _ _ _ (by omega) hj hk hz h0
end
end SR

namespace SR
open PySem PySem.Spec PyProof.Rows L2 SY
theorem lex_same : ∀ a b : List Int, HT.lexLt a b = SY.lexLt a b
  | [], [] => rfl
  | [], _ :: _ => rfl
  | _ :: _, [] => rfl
  | x :: xs, y :: ys => by
    simp only [HT.lexLt, SY.lexLt, lex_same xs ys]
section
variable {P : Program} {w : World} {K : PySem.W.Frag} {mg : Str → Option Value} {base : Heap}
def spHas : Sp := fun vs H Q _ => ∃ (fl b : Addr) (as : List Addr) (L : List (List Int)) (o : List Int), vs = [.ref fl, .ref b] ∧ H fl = some (.lst (as.map V.ref)) ∧ Rows H as L ∧ TI H b o ∧ 0 < o.length ∧ o.length ≤ 1000 ∧ (∀ x ∈ L, x.length = o.length) ∧ ∀ H', Same H H' → Q (.bl (L.any fun c => leB o c)) H'
theorem ok_has (D : Df K mg "_law_has" s_law_has ["_law_cut_rows", "_law_order"]) (B : Bi mg) (F__law_without : Cl P w K mg base 1 "_law_without" ["_law_row_here", "_law_order"] (spAdd2 subL)) : Cl P w K mg base 2 "_law_has" ["_law_cut_rows", "_law_order"] spHas := by
  refine cl_of D c_law_has (fun vs H Q E h => ?_) (fun f cdv A outer s H vs Q E hr h => ?_)
  · obtain ⟨fl, b, as, L, o, rfl, _⟩ := h
    rfl
  obtain ⟨fl, b, as, L, o, rfl, hf, R, hb, hl0, hl1, hl, k⟩ := h
  refine ⟨_, (pss_cons (ps_for PassesOwn.never rfl (pi_list (pv 0)) (pg_name (i := 2) c_law_has.nd rfl (by first | exact .inl rfl | exact .inr rfl)) (pss_one (ps_if (pt_cmpR op_ge (pe_callB (cr_minT rfl hr) (by rfl) B.min (by decide +kernel) (pa_cons (pe_cl F__law_without hr (by omega) (by rfl) (pa_cons (pv 2) (pa_cons (pv 1) pa_nil))) pa_nil)) pe_int (by rfl)) (pss_one (ps_ret pe_bl)) pss_nil))) (pss_one (ps_ret pe_bl))), ?_⟩
  refine ⟨_, rfl, fl, rfl, ⟨_, SqL.of hf⟩, for_list (xs := as.map V.ref) (fun i σ G => Same H G ∧ (L.take i).any (fun c => leB o c) = false ∧ ∃ y, σ = [some (.ref fl), some (.ref b), y]) ⟨Same.refl H, rfl, none, rfl⟩ (fun i σ G _ h => SqL.of (h.1 _ _ hf)) ?_ ?_⟩
  · rintro i x σ G hx ⟨sm, hno, y, rfl⟩
    obtain ⟨a, ha, rfl⟩ := at_ref hx
    obtain ⟨c, hc, tc⟩ := R.get ha
    have hcl := hl c (List.mem_of_getElem? hc)
    have lsub := subL_len c o (by omega)
    refine ⟨_, rfl, _, rfl, a, b, c, o, rfl, sm _ _ tc, sm _ _ hb, hcl, by omega, fun G2 z s2 hz => ⟨z, _, rfl, SqT.of hz, by omega, fun m m1 m2 => ⟨m, 0, rfl, rfl, _, rfl, ?_⟩⟩⟩
    rw [min_le (by omega) m1 m2]
    cases ql : leB o c with
    | true =>
      have e : L.any (fun c => leB o c) = true := List.any_eq_true.mpr ⟨c, List.mem_of_getElem? hc, ql⟩
      refine iteT ?_
      rw [e] at k
      exact k _ (sm.trans s2)
    | false =>
      refine iteF ⟨sm.trans s2, ?_, _, rfl⟩
      rw [take_snoc hc, List.any_append, hno]
      simp [ql]
  · rintro σ G ⟨sm, hno, y, rfl⟩
    rw [show (as.map V.ref).length = L.length by rw [List.length_map, R.len], List.take_length] at hno
    rw [hno] at k
    exact k _ sm
def spFits : Sp := fun vs H Q _ => ∃ (p a b : Addr) (us o r : List Int), vs = [.ref p, .ref a, .ref b] ∧ TI H p us ∧ Us us ∧ us.length ≤ 2 ∧ TI H a o ∧ TI H b r ∧ VR us o ∧ VR us r ∧ tot us r ≤ 40 ∧ ∀ H', Same H H' → Q (.bl (sv us o r)) H'
theorem any_fits {us o r : List Int} {L : List (List Int)} (hu : SY.pos us) (vo : VR us o) (vr : VR us r) (hL : ∀ x, x ∈ L ↔ Reach us r x) : L.any (fun c => leB o c) = sv us o r := by
  rw [Bool.eq_iff_iff, List.any_eq_true, ← fits_iff hu vo vr]
  constructor
  · rintro ⟨c, h1, h2⟩
    exact ⟨c, (hL c).mp h1, h2⟩
  · rintro ⟨c, h1, h2⟩
    exact ⟨c, (hL c).mpr h1, h2⟩
theorem ok_fits (D : Df K mg "_law_fits" s_law_fits ["_law_units_so", "_law_order", "_law_stock"]) (B : Bi mg) (F__law_cuts : Cl P w K mg base 1 "_law_cuts" ["_law_units_so", "_law_row_here"] spCuts) (F__law_without : Cl P w K mg base 1 "_law_without" ["_law_row_here", "_law_order"] (spAdd2 subL)) :
    Cl P w K mg base 2 "_law_fits" ["_law_units_so", "_law_order", "_law_stock"] spFits := by
  refine cl_of D c_law_fits (fun vs H Q E h => ?_) (fun f cdv A outer s H vs Q E hr h => ?_)
  · obtain ⟨p, a, b, us, o, r, rfl, _⟩ := h
    rfl
  obtain ⟨p, ao, b, us, o, r, rfl, hp, hu, hl2, hao, hb, vo, vr, ht, k⟩ := h
  refine ⟨_, (pss_cons (ps_for PassesOwn.never rfl (pi_list (pe_cl F__law_cuts hr (by omega) (by rfl) (pa_cons (pv 0) (pa_cons (pv 2) pa_nil)))) (pg_name (i := 3) c_law_fits.nd rfl (by first | exact .inl rfl | exact .inr rfl)) (pss_one (ps_if (pt_cmpR op_ge (pe_callB (cr_minT rfl hr) (by rfl) B.min (by decide +kernel) (pa_cons (pe_cl F__law_without hr (by omega) (by rfl) (pa_cons (pv 3) (pa_cons (pv 1) pa_nil))) pa_nil)) pe_int (by rfl)) (pss_one (ps_ret pe_bl)) pss_nil))) (pss_one (ps_ret pe_bl))), ?_⟩
  refine ⟨_, rfl, _, rfl, p, b, us, r, rfl, hp, hu, hl2, hb, vr, ht, fun H1 fl L as s1 hf R hL lL => ?_⟩
  have ea := any_fits hu.pos vo vr hL
  have hlo := vo.1
  refine ⟨fl, rfl, ⟨_, SqL.of hf⟩, for_list (xs := as.map V.ref) (fun i σ G => Same H1 G ∧ (L.take i).any (fun c => leB o c) = false ∧ ∃ y, σ = [some (.ref p), some (.ref ao), some (.ref b), y]) ⟨Same.refl H1, rfl, none, rfl⟩ (fun i σ G _ h => SqL.of (h.1 _ _ hf)) ?_ ?_⟩
  · rintro i x σ G hx ⟨sm, hno, y, rfl⟩
    obtain ⟨a, ha, rfl⟩ := at_ref hx
    obtain ⟨c, hc, tc⟩ := R.get ha
    have hcl := (reach_vr hu.pos vr ((hL c).mp (List.mem_of_getElem? hc))).1.1
    have lsub := subL_len c o (by omega)
    refine ⟨_, rfl, _, rfl, a, ao, c, o, rfl, sm _ _ tc, sm _ _ (s1 _ _ hao), by omega, by omega, fun G2 z s2 hz => ⟨z, _, rfl, SqT.of hz, by omega, fun m m1 m2 => ⟨m, 0, rfl, rfl, _, rfl, ?_⟩⟩⟩
    rw [min_le (by omega) m1 m2]
    cases ql : leB o c with
    | true =>
      have e : L.any (fun c => leB o c) = true := List.any_eq_true.mpr ⟨c, List.mem_of_getElem? hc, ql⟩
      refine iteT ?_
      rw [← ea, e] at k
      exact k _ (s1.trans (sm.trans s2))
    | false =>
      refine iteF ⟨sm.trans s2, ?_, _, rfl⟩
      rw [take_snoc hc, List.any_append, hno]
      simp [ql]
  · rintro σ G ⟨sm, hno, y, rfl⟩
    rw [show (as.map V.ref).length = L.length by rw [List.length_map, R.len], List.take_length] at hno
    rw [← ea, hno] at k
    exact k _ (s1.trans sm)
def spLawIsRow : Sp := fun vs H Q _ => ∃ (p q : Addr) (us r : List Int), vs = [.ref p, .ref q, .int 40] ∧ TI H p us ∧ Us us ∧ TI H q r ∧ VR us r ∧ tot us r ≤ 40 ∧ ∀ H', Same H H' → Q (.bl true) H'
theorem ok_law_is_row (D : Df K mg "_law_is_row" s_law_is_row ["_law_units_so", "_law_value", "_law_most"]) (B : Bi mg) (F__law_total : Cl P w K mg base 2 "_law_total" ["_law_units_so", "_law_row_here"] spTotal) : Cl P w K mg base 3 "_law_is_row" ["_law_units_so", "_law_value", "_law_most"] spLawIsRow := by
  refine cl_of D c_law_is_row (fun vs H Q E h => ?_) (fun f cdv A outer s H vs Q E hr h => ?_)
  · obtain ⟨p, q, us, r, rfl, _⟩ := h
    rfl
  obtain ⟨p, q, us, r, rfl, hp, hu, hq, vr, ht, k⟩ := h
  refine ⟨_, (pss_cons (ps_if (PW.pt (pw_or (pt_not (pt_val (pe_callB call_isi (by rfl) B.isi PyProof.Rows.boot_isinstance (pa_cons (pv 1) (pa_cons (pe_bltn (v := .ty "tuple") (by rfl) B.tup (by decide +kernel) rfl) pa_nil))))) (pw_or1 (pt_cmpR op_ne (pe_callB call_len_seq (by rfl) B.len PySem.boot_len (pa_cons (pv 1) pa_nil)) (pe_op op_add (pe_callB call_len_seq (by rfl) B.len PySem.boot_len (pa_cons (pv 0) pa_nil)) pe_int) (by rfl))))) (pss_one (ps_ret pe_bl)) pss_nil) (pss_cons (ps_setLc (i := 3) (own := [("_law_item", 4)]) (g := (gName 4)) rfl c_law_is_row.nd rfl rfl (sw_true rfl rfl rfl (by decide +kernel)) (pi_tup (pv 1)) (blkOk_by (N := ["_law_units_so", "_law_value", "_law_most", "_law_wrong", "_law_item"]) (sc := defScope s_law_is_row) (by decide +kernel)) (fun _ _ _ _ _ => (pg_name (i := 4) c_law_is_row.nd rfl (by first | exact .inl rfl | exact .inr rfl))) (fun _ _ _ _ _ => pts_one (PW.pt (pw_or (pt_not (pt_val (pe_callB (kb_isi K rfl) (by rfl) B.isi PyProof.Rows.boot_isinstance (pa_cons (pv 4) (pa_cons (pe_bltn (v := .ty "int") (by rfl) B.int (by decide +kernel) rfl) pa_nil))))) (pw_or (pt_val (pe_callB (kb_isi K rfl) (by rfl) B.isi PyProof.Rows.boot_isinstance (pa_cons (pv 4) (pa_cons (pe_bltn (v := .ty "bool") (by rfl) B.bint (by decide +kernel) rfl) pa_nil)))) (pw_or1 (pt_cmpR op_lt (pv 4) pe_int (by rfl))))))) (fun _ _ _ _ _ => pe_int)) (pss_one (ps_ret (pe_and (pe_cmpR (op_eqD (Room.u64 hr)) (pv 3) (pe_lst pa_nil) (by rfl)) (pe_one (pe_cmpR op_le (pe_cl F__law_total hr (by omega) (by rfl) (pa_cons (pv 0) (pa_cons (pv 1) pa_nil))) (pv 2) (by rfl)))))))), ?_⟩
  refine ⟨_, rfl, _, _, _, _, true, rfl, .ty "tuple", .base (.tup hq), kit_ty (by decide +kernel), true, rfl, ?_⟩
  refine iteF ⟨_, rfl, q, _, rfl, .inr (SqT.of hq), _, rfl, p, _, rfl, .inr (SqT.of hp), _, _, rfl, rfl, rfl, _, rfl, ?_⟩
  have e : (V.int ((r.map V.int).length : Int)) = V.int (((us.map V.int).length : Int) + 1) := by
    rw [List.length_map, List.length_map, vr.1]
    rfl
  rw [e]
  refine iteNS rfl ?_
  refine ⟨_, rfl, q, rfl, ⟨_, SqT.of hq⟩, fun D0 hD => lc_it (walk_tup (xs := r.map V.int)) (fun i G => Same H G ∧ G D0 = some (.lst [])) ⟨same_new hD, upd_same⟩ (fun i G _ h => SqT.of (h.1 _ _ hq)) ?_ ?_⟩
  · rintro i x G G2 hi ⟨sm, hG⟩ ⟨rfl, hx⟩
    obtain ⟨n, hn, rfl⟩ := at_int hx
    have n0 := vr.2 n (List.mem_of_getElem? hn)
    refine ⟨rfl, _, rfl, _, _, _, _, true, rfl, .ty "int", .base (.int n), kit_ty (by decide +kernel), true, rfl, iteF ?_⟩
    refine ⟨_, rfl, _, _, _, _, false, rfl, .ty "bool", .base (.int n), kit_ty (by decide +kernel), false, rfl, iteF ?_⟩
    refine ⟨_, rfl, _, _, rfl, rfl, _, rfl, ?_⟩
    rw [decide_eq_false (by omega)]
    exact iteF ⟨sm, hG⟩
  · rintro G ⟨sm, hG⟩
    refine ⟨_, rfl, by show 0 ≤ sizeLine; decide, fun e he => ?_⟩
    have s5 := same_new (o := .lst []) he
    refine eq_lst (ns := []) (ms := []) (s5 _ _ hG) upd_same ⟨true, rfl, iteT ?_⟩
    have s6 := sm.trans s5
    refine ⟨_, rfl, _, rfl, p, q, us, r, rfl, s6 _ _ hp, hu, s6 _ _ hq, fun G2 s7 => ⟨_, rfl, _, _, rfl, rfl, ?_⟩⟩
    show Q (.bl (decide (dot r (sizes us) ≤ 40))) G2
    rw [← tot_sizes vr.1, decide_eq_true ht]
    exact k _ (s6.trans s7)
def spLikeB : Sp := fun vs H Q _ => ∃ b : Bool, vs = [.bl b, .bl b] ∧ Q (.bl true) H
theorem ok_likeB (D : Df K mg "_law_like" s_law_like ["_law_got", "_law_due"]) (B : Bi mg) : Cl P w K mg base 1 "_law_like" ["_law_got", "_law_due"] spLikeB := by
  refine cl_of D c_law_like (fun vs H Q E h => ?_) (fun f cdv A outer s H vs Q E hr h => ?_)
  · obtain ⟨b, rfl, _⟩ := h
    rfl
  obtain ⟨b, rfl, k⟩ := h
  refine ⟨_, (pss_one (ps_ret (pe_cmpR op_eq (pe_callB cr_reprB (by rfl) B.rep (by decide +kernel) (pa_cons (pv 0) pa_nil)) (pe_callB cr_reprB (by rfl) B.rep (by decide +kernel) (pa_cons (pv 1) pa_nil)) (by rfl)))), ?_⟩
  refine ⟨_, rfl, b, rfl, _, rfl, b, rfl, rfl, ?_⟩
  rw [decide_eq_true rfl]
  exact k
def spLeastOnes : Sp := fun vs H Q _ => ∃ (p : Addr) (v : V) (us : List Int) (L : List (List Int)), vs = [.ref p, v] ∧ TI H p us ∧ Us us ∧ us.length ≤ 2 ∧ RowsAt H v L ∧ AllV us L ∧ (∀ r ∈ L, tot us r ≤ 40) ∧ Least us L ∧ L.length ≤ 1000 ∧ ∀ H', Same H H' → Q (.bl true) H'
theorem ok_least_ones (D : Df K mg "_law_least_ones" s_law_least_ones ["_law_units_so", "_law_rows"]) (B : Bi mg) (F__law_is_row : Cl P w K mg base 3 "_law_is_row" ["_law_units_so", "_law_value", "_law_most"] spLawIsRow) (F__law_cuts : Cl P w K mg base 1 "_law_cuts" ["_law_units_so", "_law_row_here"] spCuts)
    (F__law_has : Cl P w K mg base 2 "_law_has" ["_law_cut_rows", "_law_order"] spHas) : Cl P w K mg base 4 "_law_least_ones" ["_law_units_so", "_law_rows"] spLeastOnes := by
  refine cl_of D c_law_least_ones (fun vs H Q E h => ?_) (fun f cdv A outer s H vs Q E hr h => ?_)
  · obtain ⟨p, v, us, L, rfl, _⟩ := h
    rfl
  obtain ⟨p, v, us, L, rfl, hp, hu, hl2, ⟨a, as, rfl, ha, R⟩, vL, tL, lst, lL, k⟩ := h
  refine ⟨_, (pss_cons (ps_if (pt_not (pt_val (pe_callB call_isi (by rfl) B.isi PyProof.Rows.boot_isinstance (pa_cons (pv 1) (pa_cons (pe_bltn (v := .ty "tuple") (by rfl) B.tup (by decide +kernel) rfl) pa_nil))))) (pss_one (ps_ret pe_bl)) pss_nil) (pss_cons (ps_for PassesOwn.never rfl (pi_tup (pv 1)) (pg_name (i := 2) c_law_least_ones.nd rfl (by first | exact .inl rfl | exact .inr rfl)) (pss_one (ps_if (pt_not (pt_val (pe_cl F__law_is_row hr (by omega) (by rfl) (pa_cons (pv 0) (pa_cons (pv 2) (pa_cons pe_int pa_nil)))))) (pss_one (ps_ret pe_bl)) pss_nil))) (pss_cons (ps_if (pt_cmpR (op_neD (Room.u64 hr)) (pe_lc (own := [("_law_at", 4)]) (g := (gName 4)) rfl c_law_least_ones.nd (pi_range2 (by rfl) B.rng (pa_cons pe_int (pa_cons (pe_callB call_len_seq (by rfl) B.len PySem.boot_len (pa_cons (pv 1) pa_nil)) pa_nil))) (blkOk_by (N := ["_law_units_so", "_law_rows", "_law_row_here", "_law_mine", "_law_at", "_law_other"]) (sc := defScope s_law_least_ones) (by decide +kernel)) (fun _ _ _ _ _ => (pg_name (i := 4) c_law_least_ones.nd rfl (by first | exact .inl rfl | exact .inr rfl))) (fun _ _ _ _ _ => pts_one (pt_not (pt_cmpR (kb_ltT K rfl (Room.u0 hr)) (pe_ix (kb_ix K rfl) (pv 1) (pe_op op_sub (pv 4) pe_int) (fun _ _ => rfl)) (pe_ix (kb_ix K rfl) (pv 1) (pv 4) (fun _ _ => rfl)) (by rfl)))) (fun _ _ _ _ _ => pe_int)) (pe_lst pa_nil) (by rfl)) (pss_one (ps_ret pe_bl)) pss_nil) (pss_cons (ps_for PassesOwn.never rfl (pi_tup (pv 1)) (pg_name (i := 2) c_law_least_ones.nd rfl (by first | exact .inl rfl | exact .inr rfl)) (pss_cons (ps_set (i := 3) c_law_least_ones.nd rfl (by first | exact .inl rfl | exact .inr rfl) (pe_cl F__law_cuts hr (by omega) (by rfl) (pa_cons (pv 0) (pa_cons (pv 2) pa_nil)))) (pss_one (ps_if (pt_cmpR (op_neD (Room.u64 hr)) (pe_lc (own := [("_law_other", 5)]) (g := (gName 5)) rfl c_law_least_ones.nd (pi_tup (pv 1)) (blkOk_by (N := ["_law_units_so", "_law_rows", "_law_row_here", "_law_mine", "_law_at", "_law_other"]) (sc := defScope s_law_least_ones) (by decide +kernel)) (fun _ _ _ _ _ => (pg_name (i := 5) c_law_least_ones.nd rfl (by first | exact .inl rfl | exact .inr rfl))) (fun _ _ _ _ _ => pts_one (PW.pt (pw_and (pt_cmpR (kb_neD K rfl (Room.u64 hr)) (pv 5) (pv 2) (by rfl)) (pw_and1 (pt_val (pe_cl F__law_has hr (by omega) (by rfl) (pa_cons (pv 3) (pa_cons (pv 5) pa_nil)))))))) (fun _ _ _ _ _ => pe_int)) (pe_lst pa_nil) (by rfl)) (pss_one (ps_ret pe_bl)) pss_nil)))) (pss_one (ps_ret pe_bl)))))), ?_⟩
  have eas := R.len
  have hus := hu.1
  refine ⟨_, rfl, _, _, _, _, true, rfl, .ty "tuple", .base (.tup ha), kit_ty (by decide +kernel), true, rfl, iteF ?_⟩
  refine ⟨_, rfl, a, rfl, ⟨_, SqT.of ha⟩, for_tup (xs := as.map V.ref) (fun i σ G => Same H G ∧ ∃ y1 y2 y3 y4, σ = [some (.ref p), some (.ref a), y1, y2, y3, y4]) ⟨Same.refl H, none, none, none, none, rfl⟩ (fun i σ G _ h => SqT.of (h.1 _ _ ha)) ?_ ?_⟩
  · rintro i x σ G hx ⟨sm, y1, y2, y3, y4, rfl⟩
    obtain ⟨b, hb, rfl⟩ := at_ref hx
    obtain ⟨r, hr', tr⟩ := R.get hb
    have rm := List.mem_of_getElem? hr'
    exact ⟨_, rfl, _, rfl, p, b, us, r, rfl, sm _ _ hp, hu, sm _ _ tr, vL r rm, tL r rm, fun G2 s2 => ⟨_, rfl, iteF ⟨sm.trans s2, _, _, _, _, rfl⟩⟩⟩
  rintro σ G0 ⟨sm0, y1, y2, y3, y4, rfl⟩
  refine ⟨_, rfl, a, _, rfl, .inr (SqT.of (sm0 _ _ ha)), 1, (as.length : Int), by rw [List.length_map], ⟨by decide, by decide, by omega, by omega⟩, fun D0 hD => lc_it (walk_range (lo := 1) (n := ((as.length : Int) - 1).toNat)) (fun i G => Same G0 G ∧ G D0 = some (.lst [])) ⟨same_new hD, upd_same⟩ (fun _ _ _ _ => trivial) ?_ ?_⟩
  · rintro i x G G2 hi ⟨sm, hG⟩ ⟨rfl, rfl⟩
    obtain ⟨b, hb⟩ : ∃ b, as[i]? = some b := ⟨_, List.getElem?_eq_getElem (by omega)⟩
    obtain ⟨c, hc⟩ : ∃ c, as[i + 1]? = some c := ⟨_, List.getElem?_eq_getElem (by omega)⟩
    obtain ⟨r1, hr1, t1⟩ := R.get hb
    obtain ⟨r2, hr2, t2⟩ := R.get hc
    have hbv : (as.map V.ref)[i]? = some (.ref b) := by rw [List.getElem?_map, hb]; rfl
    have hcv : (as.map V.ref)[i + 1]? = some (.ref c) := by rw [List.getElem?_map, hc]; rfl
    have s1 := sm0.trans sm
    refine ⟨rfl, _, rfl, _, rfl, _, _, rfl, rfl, a, _, _, _, rfl, rfl, SqT.of (s1 _ _ ha), at_of (j := i) (by omega) hbv, ?_⟩
    refine ⟨_, rfl, _, rfl, a, _, _, _, rfl, rfl, SqT.of (s1 _ _ ha), at_of (j := i + 1) (by omega) hcv, b, c, r1, r2, rfl, rfl, SqT.of (s1 _ _ t1), SqT.of (s1 _ _ t2), _, rfl, ?_⟩
    have hlt : SY.lexLt r1 r2 = true := List.pairwise_iff_getElem.mp lst.1 i (i + 1) (by have := (List.getElem?_eq_some_iff.mp hr1).1; omega) (List.getElem?_eq_some_iff.mp hr2).1 (by omega) |> fun h => by
      rw [(List.getElem?_eq_some_iff.mp hr1).2, (List.getElem?_eq_some_iff.mp hr2).2] at h
      exact h
    rw [lex_same, hlt]
    exact iteF ⟨sm, hG⟩
  rintro G1 ⟨sm1, hG1⟩
  refine ⟨by show 0 ≤ sizeLine; decide, fun e he => ?_⟩
  have s5 := same_new (o := .lst []) he
  refine ne_lst (ns := []) (ms := []) (s5 _ _ hG1) upd_same ⟨false, rfl, iteF ?_⟩
  have s6 := sm0.trans (sm1.trans s5)
  refine ⟨_, rfl, a, rfl, ⟨_, SqT.of (s6 _ _ ha)⟩, for_tup (xs := as.map V.ref) (fun i σ G => Same H G ∧ ∃ y1 y2 y3 y4, σ = [some (.ref p), some (.ref a), y1, y2, y3, y4]) ⟨s6, _, _, _, _, rfl⟩ (fun i σ G _ h => SqT.of (h.1 _ _ ha)) ?_ ?_⟩
  · rintro i x σ G hx ⟨sm, y1, y2, y3, y4, rfl⟩
    obtain ⟨b, hb, rfl⟩ := at_ref hx
    obtain ⟨r, hr', tr⟩ := R.get hb
    have rm := List.mem_of_getElem? hr'
    have vr := vL r rm
    refine ⟨_, rfl, _, rfl, p, b, us, r, rfl, sm _ _ hp, hu, hl2, sm _ _ tr, vr, tL r rm, fun G2 fl M ms s2 hf RM hM lM => ?_⟩
    have s7 := sm.trans s2
    refine ⟨_, rfl, a, rfl, ⟨_, SqT.of (s7 _ _ ha)⟩, fun D1 hD1 => lc_it (walk_tup (xs := as.map V.ref)) (fun j G3 => Same G2 G3 ∧ G3 D1 = some (.lst [])) ⟨same_new hD1, upd_same⟩ (fun j G3 _ h => SqT.of (h.1 _ _ (s7 _ _ ha))) ?_ ?_⟩
    · rintro j x G3 G4 hj ⟨sm3, hG3⟩ ⟨rfl, hxj⟩
      obtain ⟨c, hc, rfl⟩ := at_ref hxj
      obtain ⟨o, ho, to⟩ := R.get hc
      have om := List.mem_of_getElem? ho
      have vo := vL o om
      have s8 := s7.trans sm3
      refine ⟨rfl, _, rfl, _, rfl, ne_tup (s8 _ _ to) (s8 _ _ tr) ⟨_, rfl, ?_⟩⟩
      by_cases e : o = r
      · rw [decide_eq_true e]
        exact iteF (iteF ⟨sm3, hG3⟩)
      · rw [decide_eq_false e]
        refine iteT ⟨_, rfl, _, rfl, fl, c, ms, M, o, rfl, sm3 _ _ hf, RM.keep (tups sm3), s8 _ _ to, by have := vo.1; omega, by have := vo.1; omega, fun x hx => ?_, fun G5 s9 => ⟨_, rfl, ?_⟩⟩
        · rw [(reach_vr hu.pos vr ((hM x).mp hx)).1.1, vo.1]
        · rw [any_fits hu.pos vo vr hM]
          have : sv us o r = false := by
            cases q : sv us o r with
            | false => rfl
            | true => exact absurd (lst.2 o om r rm q) e
          rw [this]
          exact iteF ⟨sm3.trans s9, s9 _ _ hG3⟩
    · rintro G3 ⟨sm3, hG3⟩
      refine ⟨by show 0 ≤ sizeLine; decide, fun e he => ?_⟩
      have s9 := same_new (o := .lst []) he
      refine ne_lst (ns := []) (ms := []) (s9 _ _ hG3) upd_same ⟨false, rfl, iteF ⟨s7.trans (sm3.trans s9), _, _, _, _, rfl⟩⟩
  · rintro σ G ⟨sm, y1, y2, y3, y4, rfl⟩
    exact k _ sm
end
end SR

namespace SR
open PySem PySem.Spec PyProof.Rows L2 SY
def ext (c : Nat) (p : List Int) : List (List Int) := (List.range c).map fun (i : Nat) => p ++ [(i : Int)]
theorem ext_len (c : Nat) (p : List Int) : (ext c p).length = c := by
  unfold ext
  rw [List.length_map, List.length_range]
theorem ext_get {c : Nat} {p : List Int} {i : Nat} (h : i < c) : (ext c p)[i]? = some (p ++ [(i : Int)]) := by
  unfold ext
  rw [List.getElem?_map, List.getElem?_range h]
  rfl
theorem parts_snoc (n : Int) : ∀ (a : List Int) (f : List (List Int)), partsL f (a ++ [n]) = (partsL f a).flatMap (ext (n + 1).toNat)
  | [], f => rfl
  | x :: a, f => by
    show partsL _ (a ++ [n]) = (partsL _ a).flatMap _
    exact parts_snoc n a _
theorem flat_len (c : Nat) : ∀ F : List (List Int), (F.flatMap (ext c)).length = F.length * c
  | [] => by simp
  | x :: F => by rw [List.flatMap_cons, List.length_append, ext_len, flat_len c F, List.length_cons, Nat.add_mul, Nat.one_mul, Nat.add_comm]
theorem flat_take {F : List (List Int)} {j : Nat} {x : List Int} (g : List Int → List (List Int)) (h : F[j]? = some x) : (F.take (j + 1)).flatMap g = (F.take j).flatMap g ++ g x := by
  rw [take_snoc h, List.flatMap_append]
  simp
theorem parts_few : ∀ (a : List Int), (∀ x ∈ a, 0 ≤ x ∧ x ≤ 40) → ∀ f : List (List Int), (partsL f a).length ≤ f.length * 41 ^ a.length
  | [], _, f => by simp [partsL]
  | n :: a, h, f => by
    have hn := h n (List.mem_cons_self ..)
    have ih := parts_few a (fun x hx => h x (List.mem_cons_of_mem _ hx)) (f.flatMap (ext (n + 1).toNat))
    rw [flat_len] at ih
    refine Nat.le_trans ih ?_
    rw [List.length_cons, Nat.pow_succ, Nat.mul_assoc, Nat.mul_comm (41 ^ a.length) 41]
    refine Nat.mul_le_mul_left _ (Nat.mul_le_mul_right _ (by omega))
section
variable {P : Program} {w : World} {K : PySem.W.Frag} {mg : Str → Option Value} {base : Heap}
def spParts : Sp := fun vs H Q _ => ∃ (q : Addr) (r : List Int), vs = [.ref q] ∧ TI H q r ∧ (∀ x ∈ r, 0 ≤ x ∧ x ≤ 40) ∧ r.length ≤ 3 ∧ ∀ H' fl as, Same H H' → H' fl = some (.lst (as.map V.ref)) → Rows H' as (partsL [[]] r) → Q (.ref fl) H'
theorem pow41 {i : Nat} (h : i ≤ 3) : 41 ^ i ≤ 68921 := by
  have : i = 0 ∨ i = 1 ∨ i = 2 ∨ i = 3 := by omega
  rcases this with e | e | e | e <;> subst e <;> decide
theorem ok_parts (D : Df K mg "_law_parts" s_law_parts ["_law_row_here"]) (B : Bi mg) : Cl P w K mg base 1 "_law_parts" ["_law_row_here"] spParts := by
  refine cl_of D c_law_parts (fun vs H Q E h => ?_) (fun f cdv A outer s H vs Q E hr h => ?_)
  · obtain ⟨q, r, rfl, _⟩ := h
    rfl
  obtain ⟨q, r, rfl, hq, hb, hl3, k⟩ := h
  refine ⟨_, (pss_cons (ps_set (i := 1) c_law_parts.nd rfl (by first | exact .inl rfl | exact .inr rfl) (pe_lst (pa_cons (pe_tup pa_nil) pa_nil))) (pss_cons (ps_for PassesOwn.never rfl (pi_tup (pv 0)) (pg_name (i := 2) c_law_parts.nd rfl (by first | exact .inl rfl | exact .inr rfl)) (pss_cons (ps_set (i := 3) c_law_parts.nd rfl (by first | exact .inl rfl | exact .inr rfl) (pe_lst pa_nil)) (pss_cons (ps_for PassesOwn.never rfl (pi_list (pv 1)) (pg_name (i := 4) c_law_parts.nd rfl (by first | exact .inl rfl | exact .inr rfl)) (pss_one (ps_set (i := 3) c_law_parts.nd rfl (by first | exact .inl rfl | exact .inr rfl) (pe_op op_cat (pv 3) (pe_lc (own := [("_law_less", 5)]) (g := (gName 5)) (tt := tYes) rfl c_law_parts.nd (pi_range1 (by rfl) B.rng (pa_cons (pe_op op_add (pv 2) pe_int) pa_nil)) (blkOk_by (N := ["_law_row_here", "_law_found", "_law_number", "_law_more", "_law_part", "_law_less"]) (sc := defScope s_law_parts) (by decide +kernel)) (fun _ _ _ _ _ => (pg_name (i := 5) c_law_parts.nd rfl (by first | exact .inl rfl | exact .inr rfl))) (fun _ _ _ _ _ => pts_nil) (fun _ _ _ _ _ => (pe_op (kb_catA K rfl) (pv 4) (pe_tup (pa_cons (pv 5) pa_nil))))))))) (pss_one (ps_set (i := 1) c_law_parts.nd rfl (by first | exact .inl rfl | exact .inr rfl) (pe_callTy call_list_of (by rfl) B.lst (by decide +kernel) (pa_cons (pv 3) pa_nil))))))) (pss_one (ps_ret (pv 1))))), ?_⟩
  refine ⟨by show 0 ≤ sizeLine; decide, fun t ht => ⟨by show 1 ≤ sizeLine; decide, fun fl hfl => ?_⟩⟩
  have s1 := same_new (o := .tup []) ht
  have s2 := s1.trans (same_new (o := .lst [.ref t]) hfl)
  refine ⟨_, rfl, q, rfl, ⟨_, SqT.of (s2 _ _ hq)⟩, for_tup (xs := r.map V.int) (fun i σ G => Same H G ∧ ∃ (fl : Addr) (fs : List Addr) (y1 y2 y3 y4 : Option V), G fl = some (.lst (fs.map V.ref)) ∧ Rows G fs (partsL [[]] (r.take i)) ∧ σ = [some (.ref q), some (.ref fl), y1, y2, y3, y4])
    ⟨s2, fl, [t], none, none, none, none, upd_same, .one (same_new hfl _ _ upd_same), rfl⟩ (fun i σ G _ h => SqT.of (h.1 _ _ hq)) ?_ ?_⟩
  · rintro i x σ G hx ⟨sm, fl, fs, y1, y2, y3, y4, hf, RF, rfl⟩
    obtain ⟨n, hn, rfl⟩ := at_int hx
    have hil := (List.getElem?_eq_some_iff.mp hn).1
    have hnb := hb n (List.mem_of_getElem? hn)
    have fewF : (partsL [[]] (r.take i)).length ≤ 41 ^ i := by
      have := parts_few (r.take i) (fun x hx => hb x (List.mem_of_mem_take hx)) [[]]
      rw [List.length_take, Nat.min_eq_left (by omega)] at this
      simpa using this
    have p41 := pow41 (i := i + 1) (by omega)
    rw [Nat.pow_succ] at p41
    have eF := RF.len
    refine ⟨by show 0 ≤ sizeLine; decide, fun ml hml => ?_⟩
    have s3 := same_new (o := .lst []) hml
    refine ⟨_, rfl, fl, rfl, ⟨_, SqL.of (s3 _ _ hf)⟩, for_list (xs := fs.map V.ref) (fun j σ G2 => Same G G2 ∧ ∃ (m : Addr) (ms : List Addr) (y3 y4 : Option V), G2 m = some (.lst (ms.map V.ref)) ∧ Rows G2 ms (((partsL [[]] (r.take i)).take j).flatMap (ext (n + 1).toNat)) ∧ σ = [some (.ref q), some (.ref fl), some (.int n), some (.ref m), y3, y4])
      ⟨s3, ml, [], _, _, upd_same, .nil, rfl⟩ (fun j σ G2 _ h => SqL.of (h.1 _ _ hf)) ?_ ?_⟩
    · rintro j x σ2 G2 hxj ⟨sm2, m, ms, y3, y4, hm, RM, rfl⟩
      obtain ⟨a, ha, rfl⟩ := at_ref hxj
      obtain ⟨pt, hpt, tp0⟩ := RF.get ha
      have hjl := (List.getElem?_eq_some_iff.mp hpt).1
      have tp : TI G2 a pt := sm2 _ _ tp0
      have lms : ms.length ≤ 68921 := by
        rw [RM.len, flat_len, List.length_take]
        have h1 : min j (partsL [[]] (r.take i)).length * (n + 1).toNat ≤ 41 ^ i * 41 := Nat.mul_le_mul (by omega) (by omega)
        omega
      have lpt : pt.length ≤ 3 := by
        obtain ⟨p0, hp0, q0, e0, l0, _⟩ := (parts_mem (r.take i) [[]] pt).mp (List.mem_of_getElem? hpt)
        rw [List.mem_singleton] at hp0
        subst hp0
        rw [e0, List.nil_append, l0, List.length_take]
        omega
      refine ⟨_, rfl, _, rfl, _, _, rfl, rfl, n + 1, rfl, by omega, by omega, fun D0 hD => lc_it walk_rng0 (fun e G3 => Same G2 G3 ∧ ∃ cs : List Addr, G3 D0 = some (.lst (cs.map V.ref)) ∧ Rows G3 cs ((ext (n + 1).toNat pt).take e))
        ⟨same_new hD, [], upd_same, .nil⟩ (fun _ _ _ _ => trivial) ?_ ?_⟩
      · rintro e x G3 G4 he ⟨sm3, cs, hcs, RC⟩ ⟨rfl, rfl⟩
        have hg := ext_get (p := pt) he
        have lcs : cs.length ≤ 41 := by rw [RC.len, List.length_take, ext_len]; omega
        have put : ∀ (G5 : Hp) (v : Addr), Same G4 G5 → TI G5 v (pt ++ [(e : Int)]) → ∃ acc, G5 D0 = some (.lst acc) ∧ acc.length < sizeLine ∧ Same G2 (upd G5 D0 (.lst (acc ++ [.ref v]))) ∧ ∃ cs : List Addr, upd G5 D0 (.lst (acc ++ [.ref v])) D0 = some (.lst (cs.map V.ref)) ∧ Rows (upd G5 D0 (.lst (acc ++ [.ref v]))) cs ((ext (n + 1).toNat pt).take (e + 1)) := fun G5 v s5 hv => by
          have h5 := s5 _ _ hcs
          have s6 : SameT G5 (upd G5 D0 (.lst (cs.map V.ref ++ [V.ref v]))) := fun c xs h => by
            rw [upd_ne (fun q => by rw [q, h5] at h; cases h)]
            exact h
          refine ⟨_, h5, by rw [List.length_map]; exact small60 (by omega), same_wr (sm3.trans s5) hD, cs ++ [v], by rw [upd_same, List.map_append]; rfl, ?_⟩
          rw [take_snoc hg]
          exact ((RC.keep (tups s5)).keep s6).snoc (s6 _ _ hv)
        refine ⟨rfl, _, rfl, _, rfl, by show 1 ≤ sizeLine; decide, fun u hu => ?_⟩
        have s5 := same_new (o := .tup [.int (e : Nat)]) hu
        refine ⟨a, u, _, _, rfl, rfl, SqT.of (s5 _ _ (sm3 _ _ tp)), SqT.of upd_same, ?_, fun eq => ?_, fun _ eq => (by cases eq), fun _ _ v hv => ?_⟩
        · rw [List.length_map]
          exact Nat.le_of_lt (small60 (by show _ + 1 ≤ _; omega))
        · have e2 : pt = [] := List.map_eq_nil_iff.mp eq
          exact put _ u s5 (by rw [e2]; exact upd_same)
        · exact put _ v (s5.trans (same_new hv)) (by show upd _ v _ v = _; rw [upd_same, List.map_append]; rfl)
      · rintro G3 ⟨sm3, cs, hcs, RC⟩
        rw [List.take_of_length_le (by rw [ext_len]; omega)] at RC
        have lcs : cs.length ≤ 41 := by rw [RC.len, ext_len]; omega
        refine ⟨m, D0, _, _, rfl, rfl, sm3 _ _ hm, hcs, ?_, fun z hz => ?_⟩
        · rw [List.length_map, List.length_map]
          exact Nat.le_of_lt (small60 (by omega))
        · have s7 := same_new (o := .lst (ms.map V.ref ++ cs.map V.ref)) hz
          refine ⟨sm2.trans (sm3.trans s7), z, ms ++ cs, _, _, by rw [upd_same, List.map_append], ?_, rfl⟩
          rw [flat_take _ hpt]
          exact ((RM.keep (tups sm3)).append RC).keep (tups s7)
    · rintro σ2 G2 ⟨sm2, m, ms, y3, y4, hm, RM, rfl⟩
      rw [show (fs.map V.ref).length = (partsL [[]] (r.take i)).length by rw [List.length_map, eF], List.take_length, ← parts_snoc, ← take_snoc hn] at RM
      refine ⟨_, rfl, m, _, rfl, .inl (SqL.of hm), fun z hz => ?_⟩
      have s7 := same_new (o := .lst (ms.map V.ref)) hz
      exact ⟨sm.trans (sm2.trans s7), z, ms, _, _, _, _, upd_same, RM.keep (tups s7), rfl⟩
  · rintro σ G ⟨sm, fl, fs, y1, y2, y3, y4, hf, RF, rfl⟩
    rw [List.length_map, List.take_length] at RF
    exact ⟨_, rfl, k G fl fs sm hf RF⟩
def spAll : Sp := fun vs H Q _ => ∃ (p : Addr) (us : List Int), vs = [.ref p, .int 7] ∧ TI H p us ∧ Us us ∧ us.length ≤ 2 ∧ ∀ H' fl as L, Same H H' → H' fl = some (.lst (as.map V.ref)) → Rows H' as L → (∀ x ∈ L, VR us x ∧ tot us x ≤ 7) → L.length ≤ 512 → Q (.ref fl) H'
theorem dot_nonneg : ∀ (a b : List Int), nonneg a → (∀ s ∈ b, 1 ≤ s) → 0 ≤ dot a b
  | [], _, _, _ => by simp [dot]
  | _ :: _, [], _, _ => by simp [dot]
  | x :: a, y :: b, ha, hb => by
    have h3 := dot_nonneg a b (fun z hz => ha z (List.mem_cons_of_mem _ hz)) fun s hs => hb s (List.mem_cons_of_mem _ hs)
    have h4 := Int.mul_nonneg (ha x (List.mem_cons_self ..)) (show 0 ≤ y by have := hb y (List.mem_cons_self ..); omega)
    simp only [dot]
    omega
/-- so far -/
def Pre (us : List Int) (i : Nat) (x : List Int) : Prop := x.length = i ∧ nonneg x ∧ dot x (sizes us) ≤ 7
theorem pow8 {i : Nat} (h : i ≤ 3) : 8 ^ i ≤ 512 := by
  have : i = 0 ∨ i = 1 ∨ i = 2 ∨ i = 3 := by omega
  rcases this with e | e | e | e <;> subst e <;> decide
theorem ok_all_rows (D : Df K mg "_law_all_rows" s_law_all_rows ["_law_units_so", "_law_most"]) (B : Bi mg) (F__law_sizes : Cl P w K mg base 1 "_law_sizes" ["_law_units_so"] spSizes) : Cl P w K mg base 2 "_law_all_rows" ["_law_units_so", "_law_most"] spAll := by
  refine cl_of D c_law_all_rows (fun vs H Q E h => ?_) (fun f cdv A outer s H vs Q E hr h => ?_)
  · obtain ⟨p, us, rfl, _⟩ := h
    rfl
  obtain ⟨p, us, rfl, hp, hu, hl2, k⟩ := h
  refine ⟨_, (pss_cons (ps_par (i := 2) (j := 3) rfl c_law_all_rows.nd rfl rfl (by decide) rfl rfl (pa_cons (pe_cl F__law_sizes hr (by omega) (by rfl) (pa_cons (pv 0) pa_nil)) (pa_cons (pe_lst (pa_cons (pe_tup pa_nil) pa_nil)) pa_nil)) (by rfl)) (pss_cons (ps_for PassesOwn.never rfl (pi_tup (pv 2)) (pg_name (i := 4) c_law_all_rows.nd rfl (by first | exact .inl rfl | exact .inr rfl)) (pss_cons (ps_set (i := 5) c_law_all_rows.nd rfl (by first | exact .inl rfl | exact .inr rfl) (pe_lst pa_nil)) (pss_cons (ps_for PassesOwn.never rfl (pi_list (pv 3)) (pg_name (i := 6) c_law_all_rows.nd rfl (by first | exact .inl rfl | exact .inr rfl)) (pss_cons (ps_set (i := 7) c_law_all_rows.nd rfl (by first | exact .inl rfl | exact .inr rfl) (pe_op op_sub (pv 1) (pe_callB (cr_sum rfl) (by rfl) B.sum (by decide +kernel) (pa_cons (pe_lc (own := [("_law_number", 8), ("_law_other", 9)]) (g := (gTup K 2 (gCons (gName 8) (gCons (gName 9) gNil)))) (tt := tYes) rfl c_law_all_rows.nd (RZ.pi_zipA (by rfl) B.zip (pa_cons (pv 6) (pa_cons (pv 2) pa_nil))) (blkOk_by (N := ["_law_units_so", "_law_most", "_law_sizes_so", "_law_found", "_law_size", "_law_more", "_law_row_here", "_law_left", "_law_number", "_law_other"]) (sc := defScope s_law_all_rows) (by decide +kernel)) (fun _ _ _ _ _ => (pg_tup rfl (pgs_cons (pg_name (i := 8) c_law_all_rows.nd rfl (by first | exact .inl rfl | exact .inr rfl)) (pgs_cons (pg_name (i := 9) c_law_all_rows.nd rfl (by first | exact .inl rfl | exact .inr rfl)) pgs_nil)))) (fun _ _ _ _ _ => pts_nil) (fun _ _ _ _ _ => (pe_op op_mul (pv 8) (pv 9)))) pa_nil)))) (pss_one (ps_set (i := 5) c_law_all_rows.nd rfl (by first | exact .inl rfl | exact .inr rfl) (pe_op op_cat (pv 5) (pe_lc (own := [("_law_number", 8)]) (g := (gName 8)) (tt := tYes) rfl c_law_all_rows.nd (pi_range1 (by rfl) B.rng (pa_cons (pe_op op_add (pe_op op_fdiv (pe_callTy call_int1 (by rfl) B.int (by decide +kernel) (pa_cons (pv 7) pa_nil)) (pv 4)) pe_int) pa_nil)) (blkOk_by (N := ["_law_units_so", "_law_most", "_law_sizes_so", "_law_found", "_law_size", "_law_more", "_law_row_here", "_law_left", "_law_number", "_law_other"]) (sc := defScope s_law_all_rows) (by decide +kernel)) (fun _ _ _ _ _ => (pg_name (i := 8) c_law_all_rows.nd rfl (by first | exact .inl rfl | exact .inr rfl))) (fun _ _ _ _ _ => pts_nil) (fun _ _ _ _ _ => (pe_op (kb_catA K rfl) (pv 6) (pe_tup (pa_cons (pv 8) pa_nil)))))))))) (pss_one (ps_set (i := 3) c_law_all_rows.nd rfl (by first | exact .inl rfl | exact .inr rfl) (pe_callTy call_list_of (by rfl) B.lst (by decide +kernel) (pa_cons (pv 5) pa_nil))))))) (pss_one (ps_ret (pv 3))))), ?_⟩
  refine ⟨_, rfl, p, us, rfl, hp, hu, fun H1 z s1 hz => ⟨by show 0 ≤ sizeLine; decide, fun t ht => ⟨by show 1 ≤ sizeLine; decide, fun fl hfl => ⟨_, _, rfl, ?_⟩⟩⟩⟩
  have s2 := same_new (o := .tup []) ht
  have s3 := s2.trans (same_new (o := .lst [.ref t]) hfl)
  have szs := hu.sizes
  refine ⟨_, rfl, z, rfl, ⟨_, SqT.of (s3 _ _ hz)⟩, for_tup (xs := (sizes us).map V.int) (fun i σ G => Same H1 G ∧ ∃ (fl : Addr) (fs : List Addr) (L : List (List Int)) (y1 y2 y3 y4 y5 y6 : Option V), G fl = some (.lst (fs.map V.ref)) ∧ Rows G fs L ∧ (∀ x ∈ L, Pre us i x) ∧ L.length ≤ 8 ^ i ∧
      σ = [some (.ref p), some (.int 7), some (.ref z), some (.ref fl), y1, y2, y3, y4, y5, y6])
    ⟨s3, fl, [t], [[]], none, none, none, none, none, none, upd_same, .one (same_new hfl _ _ upd_same), fun x hx => by rw [List.mem_singleton] at hx; subst hx; exact ⟨rfl, fun _ h => (by cases h), by simp [dot]⟩, by simp, rfl⟩ (fun i σ G _ h => SqT.of (h.1 _ _ hz)) ?_ ?_⟩
  · rintro i x σ G hx ⟨sm, fl, fs, L, y1, y2, y3, y4, y5, y6, hf, RF, pre, fewF, rfl⟩
    obtain ⟨sz, hsz, rfl⟩ := at_int hx
    have hil := (List.getElem?_eq_some_iff.mp hsz).1
    rw [sizes_len] at hil
    have hsb := szs sz (List.mem_of_getElem? hsz)
    have p8 := pow8 (i := i + 1) (by omega)
    rw [Nat.pow_succ] at p8
    have eF := RF.len
    refine ⟨by show 0 ≤ sizeLine; decide, fun ml hml => ?_⟩
    have s4 := same_new (o := .lst []) hml
    refine ⟨_, rfl, fl, rfl, ⟨_, SqL.of (s4 _ _ hf)⟩, for_list (xs := fs.map V.ref) (fun j σ G2 => Same G G2 ∧ ∃ (m : Addr) (ms : List Addr) (M : List (List Int)) (y3 y4 y5 y6 : Option V), G2 m = some (.lst (ms.map V.ref)) ∧ Rows G2 ms M ∧ (∀ x ∈ M, Pre us (i + 1) x) ∧ M.length ≤ j * 8 ∧
        σ = [some (.ref p), some (.int 7), some (.ref z), some (.ref fl), some (.int sz), some (.ref m), y3, y4, y5, y6])
      ⟨s4, ml, [], [], _, _, _, _, upd_same, .nil, fun _ h => (by cases h), by simp, rfl⟩ (fun j σ G2 _ h => SqL.of (h.1 _ _ hf)) ?_ ?_⟩
    · rintro j x σ2 G2 hxj ⟨sm2, m, ms, M, y3, y4, y5, y6, hm, RM, preM, fewM, rfl⟩
      obtain ⟨a, ha, rfl⟩ := at_ref hxj
      obtain ⟨pt, hpt, tp0⟩ := RF.get ha
      have hjl := (List.getElem?_eq_some_iff.mp hpt).1
      have tp : TI G2 a pt := sm2 _ _ tp0
      obtain ⟨lpt, npt, dpt⟩ := pre pt (List.mem_of_getElem? hpt)
      have dp0 := dot_nonneg pt (sizes us) npt fun s hs => (szs s hs).1
      have z2 : TI G2 z (sizes us) := sm2 _ _ (sm _ _ hz)
      have lz : (sizes us).length ≤ 4 := by rw [sizes_len]; omega
      refine ⟨_, rfl, _, rfl, _, rfl, a, z, _, _, rfl, .inr ⟨SqT.of tp, SqT.of z2, fun D0 hD => lc_it (walk_zipT (n := (mulL pt (sizes us)).length) (by rw [List.length_map, List.length_map, mulL_len]))
        (fun e G3 => Same G2 G3 ∧ G3 D0 = some (.lst (((mulL pt (sizes us)).take e).map V.int))) ⟨same_new hD, upd_same⟩ (fun e G3 _ h => ⟨SqT.of (h.1 _ _ tp), SqT.of (h.1 _ _ z2)⟩) ?_ ?_⟩⟩
      · rintro e x G3 G4 he ⟨sm3, hG⟩ ⟨T, x1, x2, rfl, nT, rfl, e1, e2⟩
        obtain ⟨n1, h1, rfl⟩ := at_int e1
        obtain ⟨n2, h2, rfl⟩ := at_int e2
        have hb := szs n2 (List.mem_of_getElem? h2)
        refine ⟨T, _, rfl, SqT.of upd_same, rfl, _, _, rfl, _, _, rfl, rfl, rfl, ?_⟩
        refine ⟨_, rfl, _, rfl, n1, n2, rfl, rfl, .inr ⟨by omega, by omega⟩, _, (by rw [upd_ne (ne_of_none hG nT)]; exact hG), ?_, same_wr (sm3.trans (same_new nT)) hD, ?_⟩
        · rw [List.length_map, List.length_take]
          rw [mulL_len] at he
          exact small60 (by omega)
        · rw [upd_same, take_snoc (mulL_get pt (sizes us) e n1 n2 h1 h2), List.map_append]
          rfl
      rintro G3 ⟨sm3, hG3⟩
      rw [List.take_length] at hG3
      refine ⟨D0, _, rfl, SqL.of hG3, _, _, rfl, rfl, ?_⟩
      rw [mulL_sum]
      have q0 : 0 ≤ (7 - dot pt (sizes us)) / sz := Int.ediv_nonneg (by omega) (by omega)
      have q1 : (7 - dot pt (sizes us)) / sz ≤ 7 - dot pt (sizes us) := Int.ediv_le_self sz (by omega)
      have q2 := Int.ediv_mul_le (7 - dot pt (sizes us)) (b := sz) (by omega)
      generalize hcq : (7 - dot pt (sizes us)) / sz = cq at q0 q1 q2
      refine ⟨_, rfl, _, rfl, .inl ⟨_, rfl, _, rfl, _, _, rfl, rfl, ⟨by omega, by omega⟩, _, _, rfl, rfl, _, rfl, by rw [hcq]; omega, by rw [hcq]; omega, fun D1 hD1 => ?_⟩⟩
      rw [hcq]
      refine lc_it walk_rng0 (fun e G4 => Same G3 G4 ∧ ∃ (cs : List Addr) (N : List (List Int)), G4 D1 = some (.lst (cs.map V.ref)) ∧ Rows G4 cs N ∧ (∀ x ∈ N, Pre us (i + 1) x) ∧ N.length ≤ e)
        ⟨same_new hD1, [], [], upd_same, .nil, fun _ h => (by cases h), Nat.zero_le _⟩ (fun _ _ _ _ => trivial) ?_ ?_
      · rintro e x G4 G5 he ⟨sm4, cs, N, hcs, RC, preN, fewN⟩ ⟨rfl, rfl⟩
        have lcs : cs.length ≤ 8 := by rw [RC.len]; omega
        have put : ∀ (G6 : Hp) (v : Addr), Same G5 G6 → TI G6 v (pt ++ [(e : Int)]) → ∃ acc, G6 D1 = some (.lst acc) ∧ acc.length < sizeLine ∧ Same G3 (upd G6 D1 (.lst (acc ++ [.ref v]))) ∧ ∃ (cs : List Addr) (N : List (List Int)), upd G6 D1 (.lst (acc ++ [.ref v])) D1 = some (.lst (cs.map V.ref)) ∧ Rows (upd G6 D1 (.lst (acc ++ [.ref v]))) cs N ∧ (∀ x ∈ N, Pre us (i + 1) x) ∧ N.length ≤ e + 1 := fun G6 v s5 hv => by
          have h5 := s5 _ _ hcs
          have s6 : SameT G6 (upd G6 D1 (.lst (cs.map V.ref ++ [V.ref v]))) := fun c xs h => by
            rw [upd_ne (fun q => by rw [q, h5] at h; cases h)]
            exact h
          refine ⟨_, h5, by rw [List.length_map]; exact small60 (by omega), same_wr (sm4.trans s5) hD1, cs ++ [v], N ++ [pt ++ [(e : Int)]], by rw [upd_same, List.map_append]; rfl, ((RC.keep (tups s5)).keep s6).snoc (s6 _ _ hv), fun x hx => ?_, by rw [List.length_append]; simp only [List.length_cons, List.length_nil]; omega⟩
          rcases List.mem_append.mp hx with h | h
          · exact preN x h
          · rw [List.mem_singleton] at h
            subst h
            refine ⟨by rw [List.length_append, lpt]; rfl, fun y hy => ?_, ?_⟩
            · rcases List.mem_append.mp hy with h | h
              · exact npt y h
              · rw [List.mem_singleton] at h
                omega
            · rw [dot_snoc pt (sizes us) (e : Int) sz (by rw [lpt]; exact hsz)]
              have h6 : (e : Int) * sz ≤ cq * sz := Int.mul_le_mul_of_nonneg_right (by omega) (by omega)
              omega
        refine ⟨rfl, _, rfl, _, rfl, by show 1 ≤ sizeLine; decide, fun u hu2 => ?_⟩
        have s5 := same_new (o := .tup [.int (e : Nat)]) hu2
        refine ⟨a, u, _, _, rfl, rfl, SqT.of (s5 _ _ (sm4 _ _ (sm3 _ _ tp))), SqT.of upd_same, ?_, fun eq => ?_, fun _ eq => (by cases eq), fun _ _ v hv => ?_⟩
        · rw [List.length_map]
          exact Nat.le_of_lt (small60 (by show _ + 1 ≤ _; omega))
        · have e2 : pt = [] := List.map_eq_nil_iff.mp eq
          exact put _ u s5 (by rw [e2]; exact upd_same)
        · exact put _ v (s5.trans (same_new hv)) (by show upd _ v _ v = _; rw [upd_same, List.map_append]; rfl)
      · rintro G4 ⟨sm4, cs, N, hcs, RC, preN, fewN⟩
        have lcs : N.length ≤ 8 := by omega
        have hj8 : j * 8 ≤ 8 ^ i * 8 := Nat.mul_le_mul_right _ (by omega)
        refine ⟨m, D1, _, _, rfl, rfl, sm4 _ _ (sm3 _ _ hm), hcs, ?_, fun zz hzz => ?_⟩
        · rw [List.length_map, List.length_map, RM.len, RC.len]
          exact Nat.le_of_lt (small60 (by omega))
        · have s7 := same_new (o := .lst (ms.map V.ref ++ cs.map V.ref)) hzz
          refine ⟨sm2.trans (sm3.trans (sm4.trans s7)), zz, ms ++ cs, M ++ N, _, _, _, _, by rw [upd_same, List.map_append], ((RM.keep (tups (sm3.trans sm4))).append RC).keep (tups s7), fun x hx => ?_, by rw [List.length_append]; omega, rfl⟩
          rcases List.mem_append.mp hx with h | h
          · exact preM x h
          · exact preN x h
    · rintro σ2 G2 ⟨sm2, m, ms, M, y3, y4, y5, y6, hm, RM, preM, fewM, rfl⟩
      refine ⟨_, rfl, m, _, rfl, .inl (SqL.of hm), fun zz hzz => ?_⟩
      have s7 := same_new (o := .lst (ms.map V.ref)) hzz
      refine ⟨sm.trans (sm2.trans s7), zz, ms, M, _, _, _, _, _, _, upd_same, RM.keep (tups s7), preM, ?_, rfl⟩
      rw [List.length_map, eF] at fewM
      rw [Nat.pow_succ]
      have : L.length * 8 ≤ 8 ^ i * 8 := Nat.mul_le_mul_right _ fewF
      omega
  · rintro σ G ⟨sm, fl, fs, L, y1, y2, y3, y4, y5, y6, hf, RF, pre, fewF, rfl⟩
    rw [List.length_map, sizes_len] at pre fewF
    refine ⟨_, rfl, k G fl fs L (s1.trans sm) hf RF (fun x hx => ?_) (Nat.le_trans fewF (pow8 (by omega)))⟩
    obtain ⟨h1, h2, h3⟩ := pre x hx
    exact ⟨⟨h1, h2⟩, by rw [tot_sizes h1]; exact h3⟩
end
end SR

namespace SR
open PySem PySem.Spec PyProof.Rows L2 SY
/-! ### the table of a formula's parts -/
/-- the numbers ns stand for the formulas fs -/
def IxF (T : List Form) (ns : List Int) (fs : List Form) : Prop := ns.length = fs.length ∧ ∀ (j : Nat) (n : Int) (g : Form), ns[j]? = some n → fs[j]? = some g → ∃ k : Nat, n = (k : Int) ∧ T[k]? = some g
theorem IxF.grow {T X : List Form} {ns : List Int} {fs : List Form} (h : IxF T ns fs) : IxF (T ++ X) ns fs :=
  ⟨h.1, fun j n g h1 h2 => let ⟨k, e, q⟩ := h.2 j n g h1 h2; ⟨k, e, by rw [List.getElem?_append_left (List.getElem?_eq_some_iff.mp q).1]; exact q⟩⟩
def EntAt (H : Hp) (T : List Form) (e : Addr) : Form → Prop
  | .row r => ∃ q, H e = some (.tup [.str "row", .ref q]) ∧ TI H q r
  | .node w fs => ∃ q ns, H e = some (.tup [.str (wdS w), .ref q]) ∧ TI H q ns ∧ IxF T ns fs
theorem EntAt.keep {H H' : Hp} {T : List Form} {e : Addr} (s : SameT H H') : ∀ {f : Form}, EntAt H T e f → EntAt H' T e f
  | .row r, ⟨q, h1, h2⟩ => ⟨q, s _ _ h1, s _ _ h2⟩
  | .node w fs, ⟨q, ns, h1, h2, h3⟩ => ⟨q, ns, s _ _ h1, s _ _ h2, h3⟩
theorem EntAt.grow {H : Hp} {T X : List Form} {e : Addr} : ∀ {f : Form}, EntAt H T e f → EntAt H (T ++ X) e f
  | .row r, ⟨q, h1, h2⟩ => ⟨q, h1, h2⟩
  | .node w fs, ⟨q, ns, h1, h2, h3⟩ => ⟨q, ns, h1, h2, h3.grow⟩
structure TabAt (H : Hp) (tb : Addr) (T : List Form) (es : List Addr) : Prop where
  at_ : H tb = some (.lst (es.map V.ref))
  len : es.length = T.length
  ent : ∀ (i : Nat) (e : Addr) (f : Form), es[i]? = some e → T[i]? = some f → EntAt H T e f
/-- all but a stays -/
def Fr1 (a : Addr) (H H' : Hp) : Prop := ∀ b o, b ≠ a → H b = some o → H' b = some o
theorem Fr1.refl (a : Addr) (H : Hp) : Fr1 a H H := fun _ _ _ e => e
theorem Fr1.trans {a : Addr} {H H1 H2 : Hp} (s : Fr1 a H H1) (t : Fr1 a H1 H2) : Fr1 a H H2 := fun b o h e => t b o h (s b o h e)
theorem fr1_same {a : Addr} {H H' : Hp} (s : Same H H') : Fr1 a H H' := fun b o _ e => s b o e
theorem fr1_wr {a c : Addr} {H G : Hp} {o : HO} (f : Fr1 a H G) (h : H c = none) : Fr1 a H (upd G c o) := fun b x h1 e => by
  rw [upd_ne (ne_of_none e h)]
  exact f b x h1 e
theorem fr1_put {a : Addr} {H G : Hp} {o : HO} (f : Fr1 a H G) : Fr1 a H (upd G a o) := fun b x h1 e => by
  rw [upd_ne h1]
  exact f b x h1 e
section
variable {P : Program} {w : World} {K : PySem.W.Frag} {mg : Str → Option Value} {base : Heap}
def spListed (n : Nat) : Sp := fun vs H Q _ => ∃ (v : V) (tb : Addr) (f : Form) (T : List Form) (es : List Addr), vs = [v, .ref tb] ∧ FA H f v ∧ dep f ≤ n ∧ TabAt H tb T es ∧ T.length + SY.cnt f ≤ 1000 ∧
  ∀ H' X es', Fr1 tb H H' → TabAt H' tb (T ++ X ++ [f]) es' → X.length + 1 ≤ SY.cnt f → Q (.int ((T ++ X).length : Nat)) H'
theorem ok_listed (D : Df K mg "_law_listed" s_law_listed ["_law_formula_here", "_law_table"]) (B : Bi mg) : ∀ n : Nat, Cl P w K mg base (n + 1) "_law_listed" ["_law_formula_here", "_law_table"] (spListed n)
  | 0 => by
    refine cl_of D c_law_listed (fun vs H Q E h => ?_) (fun f cdv A outer s H vs Q E hr h => ?_)
    · obtain ⟨v, tb, f, T, es, rfl, _⟩ := h
      rfl
    · obtain ⟨v, tb, f, T, es, rfl, _, hd, _⟩ := h
      have := dep_pos f
      omega
  | n + 1 => by
    have G0 := ok_listed D B n
    refine cl_of D c_law_listed (fun vs H Q E h => ?_) (fun f cdv A outer s H vs Q E hr h => ?_)
    · obtain ⟨v, tb, f, T, es, rfl, _⟩ := h
      rfl
    obtain ⟨v, tb, fm, T, es, rfl, hf, hd, ht, hc, k⟩ := h
    refine ⟨_, (pss_cons (ps_asg (pv 0) (pg_tup rfl (pgs_cons (pg_name (i := 2) c_law_listed.nd rfl (by first | exact .inl rfl | exact .inr rfl)) (pgs_cons (pg_name (i := 3) c_law_listed.nd rfl (by first | exact .inl rfl | exact .inr rfl)) pgs_nil)))) (pss_cons (ps_if (pt_cmpR op_ne (pv 2) pe_str (by rfl)) (pss_one (ps_set (i := 3) c_law_listed.nd rfl (by first | exact .inl rfl | exact .inr rfl) (pe_callTy call_tuple_of (by rfl) B.tup (by decide +kernel) (pa_cons (pe_lc (own := [("_law_part", 4)]) (g := (gName 4)) (tt := tYes) rfl c_law_listed.nd (pi_tup (pv 3)) (blkOk_by (N := ["_law_formula_here", "_law_table", "_law_word", "_law_what", "_law_part"]) (sc := defScope s_law_listed) (by decide +kernel)) (fun _ _ _ _ _ => (pg_name (i := 4) c_law_listed.nd rfl (by first | exact .inl rfl | exact .inr rfl))) (fun _ _ _ _ _ => pts_nil) (fun _ _ _ _ _ => (pe_cl G0 hr (by omega) (by rfl) (pa_cons (pv 4) (pa_cons (pv 1) pa_nil))))) pa_nil)))) pss_nil) (pss_cons (ps_expr (pe_bm PySem.F.plainAttrs_list PySem.F.slot_list_append PySem.F.type_list_append mt_append (pv 1) (pa_cons (pe_tup (pa_cons (pv 2) (pa_cons (pv 3) pa_nil))) pa_nil))) (pss_one (ps_ret (pe_op op_sub (pe_callB call_len_seq (by rfl) B.len PySem.boot_len (pa_cons (pv 1) pa_nil)) pe_int)))))), ?_⟩
    have fin : ∀ (G : Hp) (es1 : List Addr) (X : List Form) (e : Addr) (o : List V), Fr1 tb H G → TabAt G tb (T ++ X) es1 → X.length + 1 ≤ SY.cnt fm → G e = none → EntAt (upd G e (.tup o)) (T ++ X ++ [fm]) e fm →
        Fr1 tb H (upd (upd G e (.tup o)) tb (.lst (es1.map V.ref ++ [.ref e]))) ∧ TabAt (upd (upd G e (.tup o)) tb (.lst (es1.map V.ref ++ [.ref e]))) tb (T ++ X ++ [fm]) (es1 ++ [e]) := fun G es1 X e o fr tab hx he ent => by
      have s1 := same_new (o := .tup o) he
      have h1 := s1 _ _ tab.at_
      have T1 : SameT (upd G e (.tup o)) (upd (upd G e (.tup o)) tb (.lst (es1.map V.ref ++ [.ref e]))) := fun b xs q => by
        rw [upd_ne (fun z => by rw [z, h1] at q; cases q)]
        exact q
      refine ⟨fr1_put (fr.trans (fr1_same s1)), by rw [upd_same, List.map_append]; rfl, by rw [List.length_append, List.length_append, tab.len]; rfl, fun i b f h2 h3 => ?_⟩
      by_cases hi : i < es1.length
      · rw [List.getElem?_append_left hi] at h2
        rw [List.getElem?_append_left (by rw [← tab.len]; exact hi)] at h3
        exact ((tab.ent i b f h2 h3).keep ((tups s1).trans T1)).grow
      · rw [List.getElem?_append_right (by omega)] at h2
        rw [List.getElem?_append_right (by rw [← tab.len]; omega)] at h3
        rw [← tab.len] at h3
        cases q : i - es1.length with
        | zero =>
          rw [q] at h2 h3
          simp at h2 h3
          subst h2 h3
          exact ent.keep T1
        | succ m =>
          rw [q] at h2
          simp at h2
    have cp := cnt_pos fm
    cases fm with
    | row r =>
      simp only [FA] at hf
      obtain ⟨a, q, rfl, h1, h2⟩ := hf
      refine ⟨_, rfl, a, _, rfl, SqT.of h1, rfl, _, _, rfl, _, _, rfl, rfl, ?_⟩
      refine ⟨_, rfl, rfl, _, rfl, iteNS rfl ?_⟩
      refine ⟨_, rfl, .inl ⟨rfl, _, SqL.of ht.at_⟩, _, rfl, _, rfl, by show 2 ≤ sizeLine; decide, fun e he => ⟨tb, _, _, rfl, rfl, same_new he _ _ ht.at_, ?_, ?_⟩⟩
      · rw [List.length_map, ht.len]
        exact small60 (by omega)
      obtain ⟨g1, g2⟩ := fin H es [] e [.str "row", .ref q] (Fr1.refl tb H) (by rw [List.append_nil]; exact ht) (by simp [SY.cnt]) he ⟨q, upd_same, same_new he _ _ h2⟩
      refine ⟨_, rfl, tb, _, rfl, .inl (SqL.of g2.at_), _, _, rfl, rfl, ?_⟩
      have e1 : V.int ((((es ++ [e]).map V.ref).length : Int) - 1) = V.int ((T ++ []).length : Nat) := by
        rw [List.length_map, List.length_append, List.append_nil, ht.len]
        congr 1
        show ((T.length + 1 : Nat) : Int) - 1 = _
        omega
      show Q (V.int ((((es ++ [e]).map V.ref).length : Int) - 1)) _
      rw [e1]
      exact k _ [] _ g1 g2 (by simp [SY.cnt])
    | node wd fs =>
      simp only [FA] at hf
      obtain ⟨a, q, as, rfl, h1, h2, h3⟩ := hf
      simp only [dep] at hd
      simp only [SY.cnt] at hc
      have las := h3.len
      have e1 : decide (V.str (wdS wd) = V.str "row") = false := by cases wd <;> rfl
      refine ⟨_, rfl, a, _, rfl, SqT.of h1, rfl, _, _, rfl, _, _, rfl, rfl, ?_⟩
      refine ⟨_, rfl, rfl, _, rfl, ?_⟩
      rw [e1]
      have nlt : ∀ {b : Addr} {xs : List V} {G : Hp}, H b = some (.tup xs) → Fr1 tb H G → G b = some (.tup xs) := fun {b xs G} hb fr => fr b _ (fun z => by rw [z, ht.at_] at hb; cases hb) hb
      have TT : ∀ {G : Hp}, Fr1 tb H G → SameT H G := fun fr b xs hb => nlt hb fr
      refine ⟨_, rfl, q, rfl, ⟨_, SqT.of h2⟩, fun D0 hD => ?_⟩
      have nD : D0 ≠ tb := fun z => by rw [z, ht.at_] at hD; cases hD
      refine lc_it (walk_tup (xs := as)) (fun i G => Fr1 tb H G ∧ ∃ (X : List Form) (es1 : List Addr) (ns : List Int), TabAt G tb (T ++ X) es1 ∧ X.length ≤ cnts (fs.take i) ∧ G D0 = some (.lst (ns.map V.int)) ∧ ns.length = i ∧ ∀ (j : Nat) (m : Int) (g : Form), ns[j]? = some m → fs[j]? = some g → ∃ k : Nat, m = (k : Int) ∧ (T ++ X)[k]? = some g)
        ⟨fr1_wr (Fr1.refl tb H) hD, [], es, [], by
          rw [List.append_nil]
          have s1 := same_new (o := .lst []) hD
          exact ⟨s1 _ _ ht.at_, ht.len, fun i e f a1 a2 => (ht.ent i e f a1 a2).keep (tups s1)⟩, by simp, upd_same, rfl, fun j m g h => by simp at h⟩ (fun i G _ h => SqT.of (nlt h2 h.1)) ?_ ?_
      · rintro i x G G' hi ⟨fr, X, es1, ns, tab, lX, hG, ln, hix⟩ ⟨rfl, hx⟩
        obtain ⟨g, hg, fg⟩ := h3.get hx
        have gm := List.mem_of_getElem? hg
        have c1 := cnts_snoc fs i g hg
        have c2 := cnts_take fs (i + 1)
        have d1 := deps_mem fs g gm
        refine ⟨rfl, _, rfl, _, rfl, x, tb, g, T ++ X, es1, rfl, FA.keep (TT fr) g x fg, by omega, tab, by rw [List.length_append]; omega, fun H3 Y es2 fr3 tab3 lY => ?_⟩
        have hG3 := fr3 _ _ nD hG
        have s6 : SameT H3 (upd H3 D0 (.lst (ns.map V.int ++ [V.int ((T ++ X ++ Y).length : Nat)]))) := fun c xs h => by
          rw [upd_ne (fun q => by rw [q, hG3] at h; cases h)]
          exact h
        have eT : T ++ X ++ Y ++ [g] = T ++ (X ++ Y ++ [g]) := by simp
        refine ⟨_, hG3, ?_, fr1_wr (fr.trans fr3) hD, X ++ Y ++ [g], es2, ns ++ [((T ++ X ++ Y).length : Int)], ?_, ?_, by rw [upd_same, List.map_append]; rfl, by rw [List.length_append, ln]; rfl, ?_⟩
        · rw [List.length_map, ln]
          have : fs.length ≤ cnts fs := by
            have gen : ∀ l : List Form, l.length ≤ cnts l := by
              intro l
              induction l with
              | nil => simp
              | cons f l ih =>
                have := cnt_pos f
                simp only [List.length_cons, cnts]
                omega
            exact gen fs
          exact small60 (by omega)
        · rw [← eT]
          exact ⟨by rw [upd_ne (Ne.symm nD)]; exact tab3.at_, tab3.len, fun i e f a1 a2 => (tab3.ent i e f a1 a2).keep s6⟩
        · rw [List.length_append, List.length_append, c1]
          simp only [List.length_cons, List.length_nil]
          omega
        · intro j m g' h4 h5
          rw [← eT]
          by_cases hj : j < ns.length
          · rw [List.getElem?_append_left hj] at h4
            obtain ⟨k', e', q'⟩ := hix j m g' h4 h5
            refine ⟨k', e', ?_⟩
            have hk' := (List.getElem?_eq_some_iff.mp q').1
            rw [List.append_assoc, List.getElem?_append_left hk']
            exact q'
          · rw [List.getElem?_append_right (by omega)] at h4
            cases qj : j - ns.length with
            | zero =>
              rw [qj] at h4
              simp at h4
              have : j = i := by omega
              subst this
              rw [hg] at h5
              cases h5
              refine ⟨(T ++ X ++ Y).length, by rw [← h4]; simp [Nat.add_assoc], ?_⟩
              rw [List.getElem?_append_right (Nat.le_refl _), Nat.sub_self]
              rfl
            | succ m' =>
              rw [qj] at h4
              simp at h4
      · rintro G ⟨fr, X, es1, ns, tab, lX, hG, ln, hix⟩
        rw [las, List.take_length] at lX
        refine ⟨D0, _, rfl, .inl ⟨SqL.of hG, fun q2 hq2 => ?_⟩⟩
        have s2 := same_new (o := .tup (ns.map V.int)) hq2
        have tab2 : TabAt (upd G q2 (.tup (ns.map V.int))) tb (T ++ X) es1 := ⟨s2 _ _ tab.at_, tab.len, fun i e f a1 a2 => (tab.ent i e f a1 a2).keep (tups s2)⟩
        refine ⟨_, rfl, .inl ⟨rfl, _, SqL.of tab2.at_⟩, _, rfl, _, rfl, by show 2 ≤ sizeLine; decide, fun e he => ⟨tb, _, _, rfl, rfl, same_new he _ _ tab2.at_, ?_, ?_⟩⟩
        · rw [List.length_map, tab.len, List.length_append]
          exact small60 (by omega)
        have hcX : X.length + 1 ≤ SY.cnt (.node wd fs) := by simp only [SY.cnt]; omega
        obtain ⟨g1, g2⟩ := fin _ es1 X e [.str (wdS wd), .ref q2] (fr.trans (fr1_same s2)) tab2 hcX he ⟨q2, ns, upd_same, same_new he _ _ upd_same, ⟨by rw [ln, las], fun j m g a1 a2 => by
          obtain ⟨k', e', q'⟩ := hix j m g a1 a2
          exact ⟨k', e', by rw [List.getElem?_append_left (List.getElem?_eq_some_iff.mp q').1]; exact q'⟩⟩⟩
        refine ⟨_, rfl, tb, _, rfl, .inl (SqL.of g2.at_), _, _, rfl, rfl, ?_⟩
        have e2 : V.int ((((es1 ++ [e]).map V.ref).length : Int) - 1) = V.int ((T ++ X).length : Nat) := by
          rw [List.length_map, List.length_append, tab.len]
          congr 1
          show (((T ++ X).length + 1 : Nat) : Int) - 1 = _
          omega
        show Q (V.int ((((es1 ++ [e]).map V.ref).length : Int) - 1)) _
        rw [e2]
        exact k _ X _ g1 g2 hcX
end
end SR

namespace SR
open PySem PySem.Spec PyProof.Rows L2 SY
/-- what was kept is right -/
def SeenOk (us : List Int) (T : List Form) (L : List SEnt) : Prop := ∀ e ∈ L, ∃ (i : Nat) (f : Form), e.1.1 = (i : Int) ∧ T[i]? = some f ∧ VR us e.1.2 ∧ tot us e.1.2 ≤ 7 ∧ e.2.2 = enF us f e.1.2
theorem seen_few {us : List Int} {T : List Form} {L : List SEnt} (hu : SY.pos us) (h2 : us.length ≤ 2) (hT : T.length ≤ 20) (nd : (L.map (·.1)).Nodup) (h : SeenOk us T L) : L.length ≤ 10240 := by
  have h1 := nodup_sub (L.map (·.1)) ((List.range 20).flatMap fun (i : Nat) => (boxes 7 (us.length + 1)).map fun r => ((i : Int), r)) nd fun x hx => by
    obtain ⟨e, he, rfl⟩ := List.mem_map.mp hx
    obtain ⟨i, f, e1, e2, e3, e4, _⟩ := h e he
    have hi := (List.getElem?_eq_some_iff.mp e2).1
    refine List.mem_flatMap.mpr ⟨i, List.mem_range.mpr (by omega), List.mem_map.mpr ⟨e.1.2, boxes_mem 7 _ _ e3.1 fun y hy => ⟨e3.2 y hy, ?_⟩, ?_⟩⟩
    · have := row_le_tot hu e3.2 e3.1 y hy
      omega
    · rw [← e1]
  rw [List.length_map, len_prod (fun (i : Nat) (r : List Int) => ((i : Int), r)), List.length_range, boxes_len] at h1
  have : us.length = 0 ∨ us.length = 1 ∨ us.length = 2 := by omega
  rcases this with e | e | e <;> rw [e] at h1 <;> omega
section
variable {P : Program} {w : World} {H H' : Hp} {a tb : Addr} {L : List SEnt} {T : List Form} {es : List Addr}
theorem SeenAt.tups (S : SeenAt P w H a L) (f : Fr1 a H H') : SameT H H' := fun b xs e => f b _ (fun z => by rw [z, S.at_] at e; cases e) e
theorem SeenAt.lst (S : SeenAt P w H a L) (f : Fr1 a H H') {b : Addr} {xs : List V} (e : H b = some (.lst xs)) : H' b = some (.lst xs) := f b _ (fun z => by rw [z, S.at_] at e; cases e) e
theorem TabAt.fr (t : TabAt H tb T es) (S : SeenAt P w H a L) (f : Fr1 a H H') : TabAt H' tb T es :=
  ⟨S.lst f t.at_, t.len, fun i e g h1 h2 => (t.ent i e g h1 h2).keep (S.tups f)⟩
theorem SeenAt.wrL {D : Addr} {xs : List V} {o : HO} (S : SeenAt P w H a L) (h : H D = some (.lst xs)) : SeenAt P w (upd H D o) a L := by
  have T1 : SameT H (upd H D o) := fun b ys e => by
    rw [upd_ne (fun q => by rw [q, h] at e; cases e)]
    exact e
  exact ⟨by rw [upd_ne (fun q => by have := S.at_; rw [q, h] at this; cases this)]; exact S.at_, S.big, S.nd, fun e he => let ⟨q, h1, h2⟩ := S.keys e he; ⟨q, T1 _ _ h1, T1 _ _ h2⟩⟩
theorem TabAt.wrL {D : Addr} {xs : List V} {o : HO} (t : TabAt H tb T es) (h : H D = some (.lst xs)) (n : D ≠ tb) : TabAt (upd H D o) tb T es := by
  have T1 : SameT H (upd H D o) := fun b ys e => by
    rw [upd_ne (fun q => by rw [q, h] at e; cases e)]
    exact e
  exact ⟨by rw [upd_ne (Ne.symm n)]; exact t.at_, t.len, fun i e g h1 h2 => (t.ent i e g h1 h2).keep T1⟩
theorem TabAt.same (t : TabAt H tb T es) (s : Same H H') : TabAt H' tb T es := ⟨s _ _ t.at_, t.len, fun i e g h1 h2 => (t.ent i e g h1 h2).keep (SR.tups s)⟩
end
theorem tot_nonneg {us r : List Int} (hu : SY.pos us) (v : VR us r) : 0 ≤ tot us r := by
  cases r with
  | nil => have := v.1; simp at this
  | cons x r =>
    have h1 := row_le_tot hu v.2 v.1 x (List.mem_cons_self ..)
    have h2 := v.2 x (List.mem_cons_self ..)
    omega
theorem part_ok {us here part : List Int} (hu : SY.pos us) (vh : VR us here) (vp : VR us part) (hl : leB part here = true) : VR us (subL here part) ∧ tot us part ≤ tot us here ∧ tot us (subL here part) ≤ tot us here := by
  have l1 := subL_len here part (by rw [vh.1, vp.1])
  have vs : VR us (subL here part) := ⟨by rw [l1, vh.1], nonneg_sub here part hl⟩
  have e := tot_add (us := us) vp.1 vs.1
  rw [sub_add here part (by rw [vh.1, vp.1])] at e
  have h1 := tot_nonneg hu vp
  have h2 := tot_nonneg hu vs
  exact ⟨vs, by omega, by omega⟩
section
variable {P : Program} {w : World} {K : PySem.W.Frag} {mg : Str → Option Value} {base : Heap}
def spSuits (P : Program) (w : World) (n : Nat) : Sp := fun vs H Q _ => ∃ (p tb q sd : Addr) (i : Nat) (us r : List Int) (T : List Form) (es : List Addr) (f : Form) (L : List SEnt), vs = [.ref p, .ref tb, .int (i : Nat), .ref q, .ref sd] ∧
  TI H p us ∧ Us us ∧ us.length ≤ 2 ∧ TabAt H tb T es ∧ T.length ≤ 20 ∧ T[i]? = some f ∧ okF us f = true ∧ shp us f = true ∧ dep f ≤ n ∧ TI H q r ∧ VR us r ∧ tot us r ≤ 7 ∧ SeenAt P w H sd L ∧ SeenOk us T L ∧
  ∀ H' L', Fr1 sd H H' → SeenAt P w H' sd L' → SeenOk us T L' → Q (.bl (enF us f r)) H'
def spParted (P : Program) (w : World) (n m : Nat) : Sp := fun vs H Q _ => ∃ (p tb wq q sd : Addr) (us r ns : List Int) (T : List Form) (es : List Addr) (fs : List Form) (L : List SEnt), vs = [.ref p, .ref tb, .ref wq, .ref q, .ref sd] ∧
  TI H p us ∧ Us us ∧ us.length ≤ 2 ∧ TabAt H tb T es ∧ T.length ≤ 20 ∧ TI H wq ns ∧ IxF T ns fs ∧ (∀ g ∈ fs, okF us g = true ∧ shp us g = true ∧ dep g ≤ n) ∧ fs.length < m ∧ TI H q r ∧ VR us r ∧ tot us r ≤ 7 ∧ SeenAt P w H sd L ∧ SeenOk us T L ∧
  ∀ H' L' b, Fr1 sd H H' → SeenAt P w H' sd L' → SeenOk us T L' → (b = true ↔ Tg us fs r) → Q (.bl b) H'
theorem ok_parted (D : Df K mg "_law_parted" s_law_parted ["_law_units_so", "_law_table", "_law_what", "_law_row_here", "_law_seen"]) (B : Bi mg) (F__law_cuts : Cl P w K mg base 1 "_law_cuts" ["_law_units_so", "_law_row_here"] spCuts) (F__law_parts : Cl P w K mg base 1 "_law_parts" ["_law_row_here"] spParts)
    (F__law_without : Cl P w K mg base 1 "_law_without" ["_law_row_here", "_law_order"] (spAdd2 subL)) {n lv : Nat} (hlv : 1 ≤ lv) (F__law_suits : Cl P w K mg base lv "_law_suits" ["_law_units_so", "_law_table", "_law_index", "_law_row_here", "_law_seen"] (spSuits P w n)) :
    ∀ m : Nat, Cl P w K mg base (lv + m + 2) "_law_parted" ["_law_units_so", "_law_table", "_law_what", "_law_row_here", "_law_seen"] (spParted P w n m) := by
  intro m
  induction m with
  | zero =>
    refine cl_of D c_law_parted (fun vs H Q E h => ?_) (fun f cdv A outer s H vs Q E hr h => ?_)
    · obtain ⟨p, tb, wq, q, sd, us, r, ns, T, es, fs, L, rfl, _⟩ := h
      rfl
    obtain ⟨p, tb, wq, q, sd, us, r, ns, T, es, fs, L, rfl, hp, hu, hl2, tab, hT, hwq, ix, hfs, hm, hq, vr, ht, S, sok, k⟩ := h
    exact absurd hm (Nat.not_lt_zero _)
  | succ m ih =>
    refine cl_of D c_law_parted (fun vs H Q E h => ?_) (fun f cdv A outer s H vs Q E hr h => ?_)
    · obtain ⟨p, tb, wq, q, sd, us, r, ns, T, es, fs, L, rfl, _⟩ := h
      rfl
    obtain ⟨p, tb, wq, q, sd, us, r, ns, T, es, fs, L, rfl, hp, hu, hl2, tab, hT, hwq, ix, hfs, hm, hq, vr, ht, S, sok, k⟩ := h
    refine ⟨_, (pss_cons (ps_if (pt_cmpR (op_eqD (Room.u64 hr)) (pv 2) (pe_tup pa_nil) (by rfl)) (pss_one (ps_ret pe_bl)) pss_nil) (pss_cons (ps_for PassesOwn.never rfl (pi_list (pe_cl F__law_cuts hr (by omega) (by rfl) (pa_cons (pv 0) (pa_cons (pv 3) pa_nil)))) (pg_name (i := 5) c_law_parted.nd rfl (by first | exact .inl rfl | exact .inr rfl)) (pss_one (ps_for PassesOwn.never rfl (pi_list (pe_cl F__law_parts hr (by omega) (by rfl) (pa_cons (pv 5) pa_nil))) (pg_name (i := 6) c_law_parted.nd rfl (by first | exact .inl rfl | exact .inr rfl)) (pss_one (ps_if (pt_val (pe_cl F__law_suits hr (by omega) (by rfl) (pa_cons (pv 0) (pa_cons (pv 1) (pa_cons (pe_ix ix_tup (pv 2) pe_int (fun _ _ => rfl)) (pa_cons (pv 6) (pa_cons (pv 4) pa_nil))))))) (pss_one (ps_if (pt_val (pe_cl ih hr (by omega) (by rfl) (pa_cons (pv 0) (pa_cons (pv 1) (pa_cons (pe_slice sl_tup (pv 2) (po_some pe_int) po_none) (pa_cons (pe_cl F__law_without hr (by omega) (by rfl) (pa_cons (pv 5) (pa_cons (pv 6) pa_nil))) (pa_cons (pv 4) pa_nil))))))) (pss_one (ps_ret pe_bl)) pss_nil)) pss_nil))))) (pss_one (ps_ret pe_bl)))), ?_⟩
    refine ⟨_, rfl, by show 0 ≤ sizeLine; decide, fun e he => ?_⟩
    have s1 := same_new (o := .tup []) he
    refine eq_tup (ms := []) (s1 _ _ hwq) upd_same ⟨_, rfl, ?_⟩
    cases fs with
    | nil =>
      have : ns = [] := List.eq_nil_of_length_eq_zero ix.1
      subst this
      exact iteT (k _ L true (fr1_same s1) (S.keep s1) sok ⟨fun _ => tg_nil hu.pos vr, fun _ => rfl⟩)
    | cons g fs =>
      obtain ⟨n0, ns, rfl⟩ : ∃ n0 nr, ns = n0 :: nr := by
        cases ns with
        | nil => exact absurd ix.1 (by simp)
        | cons x y => exact ⟨x, y, rfl⟩
      obtain ⟨k0, rfl, hk0⟩ := ix.2 0 n0 g rfl rfl
      have ixr : IxF T ns fs := ⟨by have := ix.1; simpa using this, fun j a b h1 h2 => ix.2 (j + 1) a b (by simpa using h1) (by simpa using h2)⟩
      have hg := hfs g (List.mem_cons_self ..)
      have hfr : ∀ x ∈ fs, okF us x = true ∧ shp us x = true ∧ dep x ≤ n := fun x hx => hfs x (List.mem_cons_of_mem _ hx)
      have tc := fun {r : List Int} (vr : VR us r) => tg_cons hu.pos (okF_v hu.pos g hg.1).1 (fun x hx => (okF_v hu.pos x (hfr x hx).1).1) (fs := fs) vr
      simp only [List.length_cons] at hm
      refine iteF ⟨_, rfl, _, rfl, p, q, us, r, rfl, s1 _ _ hp, hu, hl2, s1 _ _ hq, vr, by omega, fun H1 fl C cs s2 hfl RC hC lC => ?_⟩
      have S1 := (S.keep s1).keep s2
      have tab1 := (tab.same s1).same s2
      have s12 := s1.trans s2
      have good : ∀ here part : List Int, Prop := fun here part => VR us part ∧ leB part here = true ∧ enF us g part = true ∧ Tg us fs (subL here part)
      refine ⟨fl, rfl, ⟨_, SqL.of hfl⟩, for_list (xs := cs.map V.ref) (fun i σ G => Fr1 sd H1 G ∧ (∃ L1, SeenAt P w G sd L1 ∧ SeenOk us T L1) ∧ (∀ (j : Nat) (here part : List Int), j < i → C[j]? = some here → VR us part → leB part here = true → enF us g part = true → ¬ Tg us fs (subL here part)) ∧
          ∃ y1 y2, σ = [some (.ref p), some (.ref tb), some (.ref wq), some (.ref q), some (.ref sd), y1, y2])
        ⟨Fr1.refl sd H1, ⟨L, S1, sok⟩, fun j here part h => absurd h (Nat.not_lt_zero _), none, none, rfl⟩ (fun i σ G _ h => SqL.of (S1.lst h.1 hfl)) ?_ ?_⟩
      · rintro i x σ G hx ⟨fr, ⟨L1, SG, sokG⟩, no, y1, y2, rfl⟩
        obtain ⟨a, ha, rfl⟩ := at_ref hx
        obtain ⟨here, hhere, ta1⟩ := RC.get ha
        have tG := S1.tups fr
        have ta : TI G a here := tG _ _ ta1
        obtain ⟨vh, _, th⟩ := reach_vr hu.pos vr ((hC here).mp (List.mem_of_getElem? hhere))
        have hbh : ∀ x ∈ here, 0 ≤ x ∧ x ≤ 40 := fun x hx => ⟨vh.2 x hx, by have := row_le_tot hu.pos vh.2 vh.1 x hx; omega⟩
        refine ⟨_, rfl, a, here, rfl, ta, hbh, by have := vh.1; omega, fun H2 pl ps s3 hpl RP => ?_⟩
        have S2 := SG.keep s3
        refine ⟨pl, rfl, ⟨_, SqL.of hpl⟩, for_list (xs := ps.map V.ref) (fun j σ G2 => Fr1 sd H2 G2 ∧ (∃ L1, SeenAt P w G2 sd L1 ∧ SeenOk us T L1) ∧ (∀ (j' : Nat) (part : List Int), j' < j → (partsL [[]] here)[j']? = some part → enF us g part = true → ¬ Tg us fs (subL here part)) ∧
            ∃ y2, σ = [some (.ref p), some (.ref tb), some (.ref wq), some (.ref q), some (.ref sd), some (.ref a), y2])
          ⟨Fr1.refl sd H2, ⟨L1, S2, sokG⟩, fun j' part h => absurd h (Nat.not_lt_zero _), y2, rfl⟩ (fun j σ G2 _ h => SqL.of (S2.lst h.1 hpl)) ?_ ?_⟩
        · rintro j x σ2 G2 hx2 ⟨fr2, ⟨L2, SG2, sokG2⟩, no2, y2, rfl⟩
          obtain ⟨b, hb, rfl⟩ := at_ref hx2
          obtain ⟨part, hpart, tb1⟩ := RP.get hb
          have t2 := S2.tups fr2
          have tbp : TI G2 b part := t2 _ _ tb1
          have tH : SameT H G2 := ((tups s12).trans tG).trans ((tups s3).trans t2)
          obtain ⟨vp, hle⟩ := (parts_iff vh).mp (List.mem_of_getElem? hpart)
          obtain ⟨vsub, tp7, ts7⟩ := part_ok hu.pos vh vp hle
          have tab2 : TabAt G2 tb T es := ((tab1.fr S1 fr).same s3).fr S2 fr2
          refine ⟨_, rfl, _, rfl, _, rfl, wq, _, 0, _, rfl, rfl, SqT.of (tH _ _ hwq), atI_nat (j := 0) rfl, _, rfl, _, rfl, p, tb, b, sd, k0, us, part, T, es, g, L2, rfl, tH _ _ hp, hu, hl2, tab2, hT, hk0, hg.1, hg.2.1, hg.2.2, tbp, vp, by omega, SG2, sokG2, fun H3 L3 f3 S3 sok3 => ⟨_, rfl, ?_⟩⟩
          have t3 := SG2.tups f3
          cases hen : enF us g part with
          | false =>
            refine iteF ⟨fr2.trans f3, ⟨L3, S3, sok3⟩, fun j' part' hj' hp' he' => ?_, _, rfl⟩
            by_cases hjj : j' < j
            · exact no2 j' part' hjj hp' he'
            · have : j' = j := by omega
              subst this
              rw [hpart] at hp'
              cases hp'
              rw [hen] at he'
              cases he'
          | true =>
            refine iteT ⟨_, rfl, _, rfl, _, rfl, 1, rfl, wq, _, rfl, SqT.of (t3 _ _ (tH _ _ hwq)), not_whole (by rw [List.length_map, List.length_cons]; omega), fun u hu2 => ?_⟩
            have s4 := same_new (o := .tup (cutV (((k0 : Int) :: ns).map V.int) (some 1) none)) hu2
            refine ⟨_, rfl, _, rfl, a, b, here, part, rfl, s4 _ _ (t3 _ _ (t2 _ _ (s3 _ _ ta))), s4 _ _ (t3 _ _ tbp), by rw [vh.1, vp.1], by have := vh.1; omega, fun H5 z s5 hz => ?_⟩
            have hu5 : TI H5 u ns := s5 _ _ (by rw [upd_same, cut_one]; rfl)
            have tH5 : SameT H H5 := (tH.trans t3).trans (tups (s4.trans s5))
            have tab5 : TabAt H5 tb T es := ((tab2.fr SG2 f3).same s4).same s5
            refine ⟨_, rfl, p, tb, u, z, sd, us, _, ns, T, es, fs, L3, rfl, tH5 _ _ hp, hu, hl2, tab5, hT, hu5, ixr, hfr, by omega, hz, vsub, by omega, (S3.keep s4).keep s5, sok3, fun H6 L6 b6 f6 S6 sok6 hb6 => ⟨_, rfl, ?_⟩⟩
            have f26 := (fr2.trans f3).trans ((fr1_same (s4.trans s5)).trans f6)
            cases b6 with
            | true =>
              refine iteT (k _ L6 true ((fr1_same s12).trans (fr.trans ((fr1_same s3).trans f26))) S6 sok6 ⟨fun _ => ?_, fun _ => rfl⟩)
              exact (tc vr).mpr ⟨here, part, (hC here).mp (List.mem_of_getElem? hhere), vp, hle, hen, hb6.mp rfl⟩
            | false =>
              refine iteF ⟨f26, ⟨L6, S6, sok6⟩, fun j' part' hj' hp' he' => ?_, _, rfl⟩
              by_cases hjj : j' < j
              · exact no2 j' part' hjj hp' he'
              · have : j' = j := by omega
                subst this
                rw [hpart] at hp'
                cases hp'
                exact fun tg => Bool.noConfusion (hb6.mpr tg)
        · rintro σ2 G2 ⟨fr2, ⟨L2, SG2, sokG2⟩, no2, y2, rfl⟩
          refine ⟨fr.trans ((fr1_same s3).trans fr2), ⟨L2, SG2, sokG2⟩, fun j here' part hj hh vp hle hen => ?_, _, _, rfl⟩
          by_cases hji : j < i
          · exact no j here' part hji hh vp hle hen
          · have : j = i := by omega
            subst this
            rw [hhere] at hh
            cases hh
            obtain ⟨j', hj'⟩ := List.getElem?_of_mem ((parts_iff vh).mpr ⟨vp, hle⟩)
            have hlt := (List.getElem?_eq_some_iff.mp hj').1
            exact no2 j' part (by rw [List.length_map, RP.len]; exact hlt) hj' hen
      · rintro σ G ⟨fr, ⟨L1, SG, sokG⟩, no, y1, y2, rfl⟩
        refine k _ L1 false ((fr1_same s12).trans fr) SG sokG ⟨fun h => Bool.noConfusion h, fun tg => ?_⟩
        obtain ⟨here, part, hre, vp, hle, hen, tgr⟩ := (tc vr).mp tg
        obtain ⟨j, hj⟩ := List.getElem?_of_mem ((hC here).mpr hre)
        have hlt := (List.getElem?_eq_some_iff.mp hj).1
        exact absurd tgr (no j here part (by rw [List.length_map, RC.len]; exact hlt) hj vp hle hen)
end
end SR

namespace SR
open PySem PySem.Spec PyProof.Rows L2 SY
theorem en_row {us r0 r : List Int} : enF us (.row r0) r = sv us r0 r := by
  simp [enF, enB, rowsF]
theorem countP_all {α : Type} (l : List α) (p : α → Bool) : decide (l.countP p = l.length) = l.all p := by
  induction l with
  | nil => rfl
  | cons x xs ih =>
    have hle := List.countP_le_length (p := p) (l := xs)
    rw [List.countP_cons, List.all_cons, List.length_cons]
    cases q : p x with
    | true => simpa [q] using ih
    | false =>
      rw [Bool.false_and]
      refine decide_eq_false ?_
      simp
      omega
section
variable {P : Program} {w : World} {K : PySem.W.Frag} {mg : Str → Option Value} {base : Heap}
theorem ok_suits0 (D : Df K mg "_law_suits" s_law_suits ["_law_units_so", "_law_table", "_law_index", "_law_row_here", "_law_seen"]) (B : Bi mg) (F__law_fits : Cl P w K mg base 2 "_law_fits" ["_law_units_so", "_law_order", "_law_stock"] spFits) {n lv : Nat} (hlv : 2 ≤ lv)
    (F__law_suits : Cl P w K mg base lv "_law_suits" ["_law_units_so", "_law_table", "_law_index", "_law_row_here", "_law_seen"] (spSuits P w n))
    (F__law_parted : Cl P w K mg base (lv + 7) "_law_parted" ["_law_units_so", "_law_table", "_law_what", "_law_row_here", "_law_seen"] (spParted P w n 5)) :
    Cl P w K mg base (lv + 8) "_law_suits" ["_law_units_so", "_law_table", "_law_index", "_law_row_here", "_law_seen"] (spSuits P w (n + 1)) := by
  refine cl_of D c_law_suits (fun vs H Q E h => ?_) (fun f cdv A outer s H vs Q E hr h => ?_)
  · obtain ⟨p, tb, q, sd, i, us, r, T, es, f, L, rfl, _⟩ := h
    rfl
  obtain ⟨p, tb, q, sd, i, us, r, T, es, fm, L, rfl, hp, hu, hl2, tab, hT, hTi, hok, hsh, hd, hq, vr, ht, S, sok, k⟩ := h
  refine ⟨_, (pss_cons (ps_if (pt_cmpR (op_inSeen hr) (pe_tup (pa_cons (pv 2) (pa_cons (pv 3) pa_nil))) (pv 4) (by rfl)) (pss_one (ps_ret (pe_seenGet hr (pv 4) (pe_tup (pa_cons (pv 2) (pa_cons (pv 3) pa_nil))) (by intro _ _; rfl)))) pss_nil) (pss_cons (ps_asg (pe_ix ix_list (pv 1) (pv 2) (fun _ _ => rfl)) (pg_tup rfl (pgs_cons (pg_name (i := 5) c_law_suits.nd rfl (by first | exact .inl rfl | exact .inr rfl)) (pgs_cons (pg_name (i := 6) c_law_suits.nd rfl (by first | exact .inl rfl | exact .inr rfl)) pgs_nil)))) (pss_cons (ps_if (pt_cmpR op_eq (pv 5) pe_str (by rfl)) (pss_one (ps_set (i := 7) c_law_suits.nd rfl (by first | exact .inl rfl | exact .inr rfl) (pe_cl F__law_fits hr (by omega) (by rfl) (pa_cons (pv 0) (pa_cons (pv 6) (pa_cons (pv 3) pa_nil)))))) (pss_one (ps_if (pt_cmpR op_eq (pv 5) pe_str (by rfl)) (pss_one (ps_set (i := 7) c_law_suits.nd rfl (by first | exact .inl rfl | exact .inr rfl) (pe_cl F__law_parted hr (by omega) (by rfl) (pa_cons (pv 0) (pa_cons (pv 1) (pa_cons (pv 6) (pa_cons (pv 3) (pa_cons (pv 4) pa_nil)))))))) (pss_cons (ps_setLc (i := 8) (own := [("_law_part", 9)]) (g := (gName 9)) rfl c_law_suits.nd rfl rfl (sw_true rfl rfl rfl (by decide +kernel)) (pi_tup (pv 6)) (blkOk_by (N := ["_law_units_so", "_law_table", "_law_index", "_law_row_here", "_law_seen", "_law_word", "_law_what", "_law_answer", "_law_good", "_law_part"]) (sc := defScope s_law_suits) (by decide +kernel)) (fun _ _ _ _ _ => (pg_name (i := 9) c_law_suits.nd rfl (by first | exact .inl rfl | exact .inr rfl))) (fun _ _ _ _ _ => pts_one (pt_val (pe_cl F__law_suits hr (by omega) (by rfl) (pa_cons (pv 0) (pa_cons (pv 1) (pa_cons (pv 9) (pa_cons (pv 3) (pa_cons (pv 4) pa_nil)))))))) (fun _ _ _ _ _ => pe_int)) (pss_one (ps_set (i := 7) c_law_suits.nd rfl (by first | exact .inl rfl | exact .inr rfl) (pe_ifExp (pt_cmpR op_eq (pv 5) pe_str (by rfl)) (pe_cmpR (op_neD (Room.u64 hr)) (pv 8) (pe_lst pa_nil) (by rfl)) (pe_cmpR op_eq (pe_callB call_len_seq (by rfl) B.len PySem.boot_len (pa_cons (pv 8) pa_nil)) (pe_callB call_len_seq (by rfl) B.len PySem.boot_len (pa_cons (pv 6) pa_nil)) (by rfl))))))))) (pss_cons (ps_seenPut hr (pv 4) (pe_tup (pa_cons (pv 2) (pa_cons (pv 3) pa_nil))) (pv 7) rfl) (pss_one (ps_ret (pv 7))))))), ?_⟩
  have keyin : ∀ {G : Hp} {t : Addr}, TI G q r → G t = some (.tup [.int (i : Nat), .ref q]) → KeyIn G ((i : Int), r) t := fun h1 h2 => ⟨q, h2, h1⟩
  have fin : ∀ (y5 y6 y8 y9 : Option V) (G : Hp) (L1 : List SEnt), Fr1 sd H G → SeenAt P w G sd L1 → SeenOk us T L1 →
      tSeq (sSeenPut P w (tVar 4) (tTup (tCons (tVar 2) (tCons (tVar 3) tNil))) (tVar 7)) (tRet (tVar 7)) { nx := fun _ H' => Q .non H', rt := Q } [some (.ref p), some (.ref tb), some (.int (i : Nat)), some (.ref q), some (.ref sd), y5, y6, some (.bl (enF us fm r)), y8, y9] G := fun y5 y6 y8 y9 G L1 fr SG sokG => by
    have tG := S.tups fr
    refine ⟨_, rfl, _, rfl, _, rfl, _, rfl, by show 2 ≤ sizeLine; decide, fun t ht0 => ?_⟩
    have s1 := same_new (o := .tup [.int (i : Nat), .ref q]) ht0
    have few := seen_few hu.pos hl2 hT SG.nd sokG
    refine ⟨sd, t, ((i : Int), r), L1, _, rfl, rfl, rfl, keyin (s1 _ _ (tG _ _ hq)) upd_same, SG.keep s1, Nat.le_of_lt (small60 (by omega)), fun L2 S2 he => ⟨_, rfl, ?_⟩⟩
    refine k _ L2 (fr1_put (fr.trans (fr1_same s1))) S2 fun e he2 => ?_
    rcases he e he2 with ⟨e1, e2⟩ | ⟨e', he', e1, e2⟩
    · rw [e1, e2]
      exact ⟨i, fm, rfl, hTi, vr, ht, rfl⟩
    · rw [e1, e2]
      exact sokG e' he'
  refine ⟨_, rfl, _, rfl, by show 2 ≤ sizeLine; decide, fun t ht1 => ⟨_, rfl, sd, t, ((i : Int), r), L, rfl, rfl, keyin (same_new ht1 _ _ hq) upd_same, S.keep (same_new ht1), _, rfl, ?_⟩⟩
  have s1 := same_new (o := .tup [.int (i : Nat), .ref q]) ht1
  cases hlk : look L ((i : Int), r) with
  | some b =>
    refine iteT ⟨_, rfl, _, rfl, _, rfl, by show 2 ≤ sizeLine; decide, fun t2 ht2 => ⟨sd, t2, ((i : Int), r), L, b, rfl, rfl, keyin (same_new ht2 _ _ (s1 _ _ hq)) upd_same, (S.keep s1).keep (same_new ht2), hlk, ?_⟩⟩
    obtain ⟨e, he, e1, e2⟩ := look_mem hlk
    obtain ⟨i', f', a1, a2, a3, _, a5⟩ := sok e he
    rw [e1] at a1 a5
    have : i' = i := by
      have a1 : (i : Int) = (i' : Int) := a1
      omega
    subst this
    rw [hTi] at a2
    cases a2
    rw [← e2, a5]
    exact k _ L (fr1_same (s1.trans (same_new ht2))) ((S.keep s1).keep (same_new ht2)) sok
  | none =>
    have hil : i < es.length := by rw [tab.len]; exact (List.getElem?_eq_some_iff.mp hTi).1
    obtain ⟨e, he⟩ : ∃ e, es[i]? = some e := ⟨_, List.getElem?_eq_getElem hil⟩
    have tab1 := tab.same s1
    have S1 := S.keep s1
    have ent := tab1.ent i e fm he hTi
    have hev : (es.map V.ref)[i]? = some (.ref e) := by rw [List.getElem?_map, he]; rfl
    cases fm with
    | row r0 =>
      obtain ⟨qr, h1, h2⟩ := ent
      simp only [okF] at hok
      refine iteF ⟨_, rfl, _, rfl, tb, _, _, _, rfl, rfl, SqL.of tab1.at_, atI_nat hev, e, _, rfl, SqT.of h1, rfl, _, _, rfl, _, _, rfl, rfl, ?_⟩
      refine ⟨_, rfl, rfl, _, rfl, iteT ?_⟩
      refine ⟨_, rfl, _, rfl, _, rfl, p, qr, q, us, r0, r, rfl, s1 _ _ hp, hu, hl2, h2, s1 _ _ hq, vrB_iff.mp hok, vr, by omega, fun G s2 => ?_⟩
      have f2 := fin (some (.str "row")) (some (.ref qr)) none none G L (fr1_same (s1.trans s2)) (S1.keep s2) sok
      rw [en_row] at f2
      exact f2
    | node wd fs =>
      obtain ⟨qr, ns, h1, h2, ix⟩ := ent
      simp only [okF, Bool.and_eq_true] at hok
      simp only [shp, Bool.and_eq_true, decide_eq_true_eq] at hsh
      simp only [dep] at hd
      have hfs : ∀ g ∈ fs, okF us g = true ∧ shp us g = true ∧ dep g ≤ n := fun g hg => ⟨okFs_all us fs hok.1 g hg, shps_mem us fs hsh.2 g hg, by have := deps_mem fs g hg; omega⟩
      have hfv : ∀ g ∈ fs, FV us g := fun g hg => (okF_v hu.pos g (hfs g hg).1).1
      have e1 : decide (V.str (wdS wd) = V.str "row") = false := by cases wd <;> rfl
      refine iteF ⟨_, rfl, _, rfl, tb, _, _, _, rfl, rfl, SqL.of tab1.at_, atI_nat hev, e, _, rfl, SqT.of h1, rfl, _, _, rfl, _, _, rfl, rfl, ?_⟩
      refine ⟨_, rfl, rfl, _, rfl, ?_⟩
      rw [e1]
      refine iteF ⟨_, rfl, rfl, _, rfl, ?_⟩
      by_cases hw : wd = .tog
      · subst hw
        refine iteT ⟨_, rfl, _, rfl, _, rfl, _, rfl, _, rfl, p, tb, qr, q, sd, us, r, ns, T, es, fs, L, rfl, s1 _ _ hp, hu, hl2, tab1, hT, h2, ix, hfs, by omega, s1 _ _ hq, vr, ht, S1, sok, fun G L1 b fr SG sokG hb => ?_⟩
        have eb : b = enF us (.node .tog fs) r := by
          rw [Bool.eq_iff_iff, hb, en_tog hu.pos hfv vr]
        have f2 := fin (some (.str "together")) (some (.ref qr)) none none G L1 ((fr1_same s1).trans fr) SG sokG
        rw [← eb] at f2
        exact f2
      · have e2 : decide (V.str (wdS wd) = V.str "together") = false := by
          cases wd with
          | tog => exact absurd rfl hw
          | _ => rfl
        rw [e2]
        refine iteF ⟨_, rfl, qr, rfl, ⟨_, SqT.of h2⟩, fun D0 hD => ?_⟩
        have nD : D0 ≠ tb := fun z => by rw [z, tab1.at_] at hD; cases hD
        refine lc_it (walk_tup (xs := ns.map V.int)) (fun j G => Fr1 sd (upd H t (.tup [.int (i : Nat), .ref q])) G ∧ (∃ L1, SeenAt P w G sd L1 ∧ SeenOk us T L1) ∧ TabAt G tb T es ∧ G D0 = some (.lst ((ones ((fs.take j).countP fun g => enF us g r)).map V.int)))
          ⟨fr1_same (same_new hD), ⟨L, S1.keep (same_new hD), sok⟩, tab1.same (same_new hD), upd_same⟩ (fun j G _ h => SqT.of (S1.tups h.1 _ _ h2)) ?_ ?_
        · rintro j x G G' hj ⟨fr, ⟨L1, SG, sokG⟩, tabG, hG⟩ ⟨rfl, hx⟩
          obtain ⟨nn, hnn, rfl⟩ := at_int hx
          have hjl := (List.getElem?_eq_some_iff.mp hnn).1
          obtain ⟨g, hg⟩ : ∃ g, fs[j]? = some g := ⟨_, List.getElem?_eq_getElem (by rw [← ix.1]; exact hjl)⟩
          obtain ⟨kk, rfl, hkk⟩ := ix.2 j nn g hnn hg
          have gg := hfs g (List.mem_of_getElem? hg)
          have tG := S1.tups fr
          have cs := countP_snoc (fun g => enF us g r) hg
          refine ⟨rfl, _, rfl, _, rfl, _, rfl, _, rfl, _, rfl, p, tb, q, sd, kk, us, r, T, es, g, L1, rfl, tG _ _ (s1 _ _ hp), hu, hl2, tabG, hT, hkk, gg.1, gg.2.1, gg.2.2, tG _ _ (s1 _ _ hq), vr, ht, SG, sokG, fun G3 L3 f3 S3 sok3 => ⟨_, rfl, ?_⟩⟩
          have hG3 := SG.lst f3 hG
          cases ql : enF us g r with
          | false =>
            refine iteF ⟨fr.trans f3, ⟨L3, S3, sok3⟩, tabG.fr SG f3, ?_⟩
            rw [cs, ql]
            exact hG3
          | true =>
            refine iteT ⟨_, hG3, ?_, fr1_wr (fr.trans f3) hD, ⟨L3, S3.wrL hG3, sok3⟩, (tabG.fr SG f3).wrL hG3 nD, ?_⟩
            · rw [ones_len]
              refine small60 (Nat.le_trans List.countP_le_length ?_)
              rw [List.length_take]
              omega
            · rw [upd_same, cs, ql]
              exact congrArg (fun l => some (HO.lst l)) (ones_snoc _).symm
        · rintro G ⟨fr, ⟨L1, SG, sokG⟩, tabG, hG⟩
          rw [show (ns.map V.int).length = fs.length by rw [List.length_map, ix.1], List.take_length] at hG
          refine ⟨_, rfl, rfl, _, rfl, ?_⟩
          cases wd with
          | tog => exact absurd rfl hw
          | one =>
            refine iteT ⟨_, rfl, by show 0 ≤ sizeLine; decide, fun z hz => ?_⟩
            have s3 := same_new (o := .lst []) hz
            refine ne_lst (ms := []) (s3 _ _ hG) upd_same ?_
            have f2 := fin (some (.str "one")) (some (.ref qr)) (some (.ref D0)) none _ L1 ((fr1_same s1).trans (fr.trans (fr1_same s3))) (SG.keep s3) sokG
            rw [en_one hu.pos hfv vr] at f2
            rw [ones_eq, countP_any, Bool.not_not]
            exact f2
          | any =>
            refine iteF ⟨_, rfl, D0, _, rfl, .inl (SqL.of hG), _, rfl, qr, _, rfl, .inr (SqT.of (S1.tups fr _ _ h2)), rfl, ?_⟩
            have f2 := fin (some (.str "any")) (some (.ref qr)) (some (.ref D0)) none _ L1 ((fr1_same s1).trans fr) SG sokG
            rw [en_any hu.pos hfv vr] at f2
            have e3 : decide (V.int (((ones (fs.countP fun g => enF us g r)).map V.int).length : Int) = V.int ((ns.map V.int).length : Int)) = fs.all fun g => enF us g r := by
              rw [ones_len, List.length_map, ix.1, ← countP_all]
              rw [decide_eq_decide]
              constructor
              · intro h
                injection h with h
                omega
              · intro h
                rw [h]
            rw [e3]
            exact f2
theorem ok_suits (D : Df K mg "_law_suits" s_law_suits ["_law_units_so", "_law_table", "_law_index", "_law_row_here", "_law_seen"]) (D2 : Df K mg "_law_parted" s_law_parted ["_law_units_so", "_law_table", "_law_what", "_law_row_here", "_law_seen"]) (B : Bi mg)
    (F__law_fits : Cl P w K mg base 2 "_law_fits" ["_law_units_so", "_law_order", "_law_stock"] spFits) (F__law_cuts : Cl P w K mg base 1 "_law_cuts" ["_law_units_so", "_law_row_here"] spCuts) (F__law_parts : Cl P w K mg base 1 "_law_parts" ["_law_row_here"] spParts)
    (F__law_without : Cl P w K mg base 1 "_law_without" ["_law_row_here", "_law_order"] (spAdd2 subL)) : ∀ n : Nat, Cl P w K mg base (2 + 8 * n) "_law_suits" ["_law_units_so", "_law_table", "_law_index", "_law_row_here", "_law_seen"] (spSuits P w n)
  | 0 => by
    refine cl_of (k := 1) D c_law_suits (fun vs H Q E h => ?_) (fun f cdv A outer s H vs Q E hr h => ?_)
    · obtain ⟨p, tb, q, sd, i, us, r, T, es, f, L, rfl, _⟩ := h
      rfl
    · obtain ⟨p, tb, q, sd, i, us, r, T, es, fm, L, rfl, _, _, _, _, _, _, _, _, hd, _⟩ := h
      have := dep_pos fm
      omega
  | n + 1 => by
    have G := ok_suits D D2 B F__law_fits F__law_cuts F__law_parts F__law_without n
    have G2 := ok_parted (n := n) D2 B F__law_cuts F__law_parts F__law_without (Nat.le_trans (by decide) (Nat.le_add_right 2 (8 * n))) G 5
    exact ok_suits0 D B F__law_fits (Nat.le_add_right 2 (8 * n)) G G2
end
end SR

namespace SR
open PySem PySem.Spec PyProof.Rows L2 SY
theorem fr_fr1 {d l a : Addr} {H G0 G : Hp} (f : Fr d l H G0) (s : Fr1 a G0 G) (h : H a = none) : Fr d l H G := fun b o h1 h2 e => s b o (fun z => by rw [z, h] at e; cases e) (f b o h1 h2 e)
theorem St.fr1 {H H' : Hp} {d c l a : Addr} {n : Int} (h : St H d c l n) (f : Fr1 a H H') (k : a ≠ d ∧ a ≠ c ∧ a ≠ l) : St H' d c l n :=
  let ⟨x, y, h1, h2, h3⟩ := h.body
  ⟨f _ _ (Ne.symm k.1) h.dict, ⟨x, y, f _ _ (Ne.symm k.2.1) h1, f _ _ (Ne.symm k.2.2) h2, h3⟩, h.ne⟩
theorem rowB_of {us r : List Int} (hu : SY.pos us) (v : VR us r) (ht : tot us r ≤ 7) : rowB us r = true := by
  unfold rowB
  rw [Bool.and_eq_true, decide_eq_true_eq, List.all_eq_true]
  refine ⟨v.1, fun x hx => ?_⟩
  rw [Bool.and_eq_true, decide_eq_true_eq, decide_eq_true_eq]
  have h1 := row_le_tot hu v.2 v.1 x hx
  have h2 : (7 : Int) ≤ 10 ^ 60 := by decide
  exact ⟨v.2 x hx, by omega⟩
section
variable {P : Program} {w : World} {K : PySem.W.Frag} {mg : Str → Option Value} {base : Heap}
def spRight : Sp := fun vs H Q _ => ∃ (d c l : Addr) (n : Int), vs = [.ref d] ∧ St H d c l n ∧ 0 ≤ n ∧ n ≤ 500 ∧ ∀ H' m, Fr d l H H' → St H' d c l m → 0 ≤ m → m ≤ n + 100 → Q (.bl true) H'
theorem ok_right (D : Df K mg "_law_right" s_law_right ["_law_state"]) (B : Bi mg) (F__law_units : Cl P w K mg base 3 "_law_units" ["_law_state"] spUnits) (F__law_formula : Cl P w K mg base 7 "_law_formula" ["_law_state", "_law_units_so", "_law_deep", "_law_most"] (spFormula 3))
    (F_formula_stocks : Cl P w K mg base 12 "formula_stocks" ["units", "formula"] spStocks) (F__law_least_ones : Cl P w K mg base 4 "_law_least_ones" ["_law_units_so", "_law_rows"] spLeastOnes) (F__law_listed : Cl P w K mg base 4 "_law_listed" ["_law_formula_here", "_law_table"] (spListed 3))
    (F__law_all_rows : Cl P w K mg base 2 "_law_all_rows" ["_law_units_so", "_law_most"] spAll) (F__law_cuts : Cl P w K mg base 1 "_law_cuts" ["_law_units_so", "_law_row_here"] spCuts) (F__law_suits : Cl P w K mg base 26 "_law_suits" ["_law_units_so", "_law_table", "_law_index", "_law_row_here", "_law_seen"] (spSuits P w 3))
    (F__law_has : Cl P w K mg base 2 "_law_has" ["_law_cut_rows", "_law_order"] spHas) (F__law_like : Cl P w K mg base 1 "_law_like" ["_law_got", "_law_due"] spLikeB) (F_is_enough_for : Cl P w K mg base 12 "is_enough_for" ["units", "formula", "stock"] spEnoughFor) :
    Cl P w K mg base 27 "_law_right" ["_law_state"] spRight := by
  refine cl_of D c_law_right (fun vs H Q E h => ?_) (fun f cdv A outer s H vs Q E hr h => ?_)
  · obtain ⟨d, c, l, n, rfl, _⟩ := h
    rfl
  obtain ⟨d, c, l, n, rfl, S, n0, n1, k⟩ := h
  refine ⟨_, (pss_cons (ps_set (i := 1) c_law_right.nd rfl (by first | exact .inl rfl | exact .inr rfl) (pe_cl F__law_units hr (by omega) (by rfl) (pa_cons (pv 0) pa_nil))) (pss_cons (ps_set (i := 2) c_law_right.nd rfl (by first | exact .inl rfl | exact .inr rfl) (pe_cl F__law_formula hr (by omega) (by rfl) (pa_cons (pv 0) (pa_cons (pv 1) (pa_cons pe_int (pa_cons pe_int pa_nil)))))) (pss_cons (ps_set (i := 3) c_law_right.nd rfl (by first | exact .inl rfl | exact .inr rfl) (pe_cl F_formula_stocks hr (by omega) (by rfl) (pa_cons (pv 1) (pa_cons (pv 2) pa_nil)))) (pss_cons (ps_if (pt_not (pt_val (pe_cl F__law_least_ones hr (by omega) (by rfl) (pa_cons (pv 1) (pa_cons (pv 3) pa_nil))))) (pss_one (ps_ret pe_bl)) pss_nil) (pss_cons (ps_par (i := 4) (j := 5) rfl c_law_right.nd rfl rfl (by decide) rfl rfl (pa_cons (pe_lst pa_nil) (pa_cons (pe_dnewS) pa_nil)) (by rfl)) (pss_cons (ps_set (i := 6) c_law_right.nd rfl (by first | exact .inl rfl | exact .inr rfl) (pe_cl F__law_listed hr (by omega) (by rfl) (pa_cons (pv 2) (pa_cons (pv 4) pa_nil)))) (pss_cons (ps_for PassesOwn.never rfl (pi_list (pe_cl F__law_all_rows hr (by omega) (by rfl) (pa_cons (pv 1) (pa_cons pe_int pa_nil)))) (pg_name (i := 7) c_law_right.nd rfl (by first | exact .inl rfl | exact .inr rfl)) (pss_cons (ps_set (i := 8) c_law_right.nd rfl (by first | exact .inl rfl | exact .inr rfl) (pe_cl F__law_cuts hr (by omega) (by rfl) (pa_cons (pv 1) (pa_cons (pv 7) pa_nil)))) (pss_cons (ps_set (i := 9) c_law_right.nd rfl (by first | exact .inl rfl | exact .inr rfl) (pe_cl F__law_suits hr (by omega) (by rfl) (pa_cons (pv 1) (pa_cons (pv 4) (pa_cons (pv 6) (pa_cons (pv 7) (pa_cons (pv 5) pa_nil))))))) (pss_cons (ps_set (i := 10) c_law_right.nd rfl (by first | exact .inl rfl | exact .inr rfl) (pe_cmpR (op_neD (Room.u64 hr)) (pe_lc (own := [("_law_row_here", 11)]) (g := (gName 11)) rfl c_law_right.nd (pi_tup (pv 3)) (blkOk_by (N := ["_law_state", "_law_units_so", "_law_formula_here", "_law_rows", "_law_table", "_law_seen", "_law_index", "_law_near", "_law_mine", "_law_due", "_law_told", "_law_row_here"]) (sc := defScope s_law_right) (by decide +kernel)) (fun _ _ _ _ _ => (pg_name (i := 11) c_law_right.nd rfl (by first | exact .inl rfl | exact .inr rfl))) (fun _ _ _ _ _ => pts_one (pt_val (pe_cl F__law_has hr (by omega) (by rfl) (pa_cons (pv 8) (pa_cons (pv 11) pa_nil))))) (fun _ _ _ _ _ => pe_int)) (pe_lst pa_nil) (by rfl))) (pss_one (ps_if (PW.pt (pw_or (pt_cmpR op_ne (pv 10) (pv 9) (by rfl)) (pw_or1 (pt_not (pt_val (pe_cl F__law_like hr (by omega) (by rfl) (pa_cons (pe_cl F_is_enough_for hr (by omega) (by rfl) (pa_cons (pv 1) (pa_cons (pv 2) (pa_cons (pv 7) pa_nil)))) (pa_cons (pv 9) pa_nil)))))))) (pss_one (ps_ret pe_bl)) pss_nil)))))) (pss_one (ps_ret pe_bl))))))))), ?_⟩
  refine ⟨_, rfl, d, c, l, n, rfl, S, n0, by omega, fun H1 p us m1 f1 S1 a1 b1 hp1 hl2 hu => ?_⟩
  refine ⟨_, rfl, _, rfl, d, c, l, p, m1, us, 2, by decide, rfl, S1, by omega, by show m1 + 56 ≤ 900; omega, hp1, hu, hl2, fun H2 fv fm m2 f2 S2 a2 b2 fa2 hdr => ?_⟩
  have b2' : m2 ≤ m1 + 56 := b2
  have fine := dr_fine hu.pos hdr
  have dsh := dr_shape hu.pos 2 fm hdr
  have dd := dr2 hu.pos hdr
  have fvv := okF_v hu.pos fm dd.1
  have t2 := S1.tups f2
  have hp2 : TI H2 p us := t2 _ _ hp1
  refine ⟨_, rfl, _, rfl, p, fv, us, fm, rfl, hp2, hu, fa2, fine, fun H3 rv s3 hrv => ?_⟩
  have hus := hu.1
  refine ⟨_, rfl, _, rfl, p, rv, us, rowsF us fm, rfl, s3 _ _ hp2, hu, hl2, hrv, fvv.1, fun r hr => Int.le_trans (dd.2.tt r hr) (by decide), fvv.2, Nat.le_trans dd.2.len (by decide), fun H4 s4 => ⟨_, rfl, iteF ?_⟩⟩
  have s24 := s3.trans s4
  refine ⟨by show 0 ≤ sizeLine; decide, fun tb htb sd hsd S0 => ⟨_, _, rfl, ?_⟩⟩
  have s5 := same_new (o := .lst []) htb
  have s6 := same_new (o := SeenO P w sd []) hsd
  have ntb : sd ≠ tb := fun z => by rw [z, upd_same] at hsd; cases hsd
  have f4 : Fr d l H H4 := (f1.trans f2).trans (fr_same s24)
  have htbH : H tb = none := by
    cases q : H tb with
    | none => rfl
    | some o =>
      have hn := (S2.keep s24).fresh htb
      rw [f4 _ _ hn.1 hn.2.2 q] at htb; cases htb
  have hsdH4 : H4 sd = none := none_of s5 hsd
  have hsdH : H sd = none := by
    cases q : H sd with
    | none => rfl
    | some o =>
      have hn := (S2.keep s24).fresh hsdH4
      rw [f4 _ _ hn.1 hn.2.2 q] at hsdH4; cases hsdH4
  have s26 := s24.trans (s5.trans s6)
  have tab0 : TabAt (upd (upd H4 tb (.lst [])) sd (SeenO P w sd [])) tb [] [] := ⟨s6 _ _ upd_same, rfl, fun i e f h => by simp at h⟩
  have cle := fine.2.1
  refine ⟨_, rfl, _, rfl, fv, tb, fm, [], [], rfl, FA.keep (tups s26) fm fv fa2, dsh.2.1, tab0, by simp only [List.length_nil]; omega, fun H7 X es f7 tab7 lX => ?_⟩
  have nd7 := (S2.keep s24).fresh htb
  have S7 : St H7 d c l m2 := (S2.keep s26).fr1 f7 nd7
  have ns7 := ((S2.keep s24).keep s5).fresh hsd
  have seen7 : SeenAt P w H7 sd [] := by
    have t7 : SameT (upd (upd H4 tb (.lst [])) sd (SeenO P w sd [])) H7 := fun b xs e => f7 b _ (fun z => by rw [z, tab0.at_] at e; cases e) e
    exact ⟨f7 _ _ ntb S0.at_, S0.big, S0.nd, fun e he => by cases he⟩
  have t7 : SameT H2 H7 := (tups s26).trans fun b xs e => f7 b _ (fun z => by rw [z, tab0.at_] at e; cases e) e
  have f07 : Fr d l H H7 := fr_fr1 (((f1.trans f2).trans (fr_same s26))) f7 htbH
  have hT : ([] ++ X ++ [fm]).length ≤ 20 := by
    rw [List.length_append, List.nil_append]
    simp only [List.length_cons, List.length_nil]
    omega
  have hTi : ([] ++ X ++ [fm])[([] ++ X).length]? = some fm := by
    rw [List.getElem?_append_right (Nat.le_refl _), Nat.sub_self]
    rfl
  obtain ⟨ra, rs, rfl, hra3, RR3⟩ := hrv
  have hra7 : H7 ra = some (.tup (rs.map V.ref)) := f7 _ _ (fun z => by
    have q := (s4.trans (s5.trans s6)) _ _ hra3
    rw [z, tab0.at_] at q
    cases q) ((s4.trans (s5.trans s6)) _ _ hra3)
  have t37 : SameT H3 H7 := (tups (s4.trans (s5.trans s6))).trans fun b xs e => f7 b _ (fun z => by rw [z, tab0.at_] at e; cases e) e
  have RR7 := RR3.keep t37
  refine ⟨_, rfl, p, us, rfl, t7 _ _ hp2, hu, hl2, fun H8 fl as LL s8 hfl RA hLL lLL => ?_⟩
  refine ⟨fl, rfl, ⟨_, SqL.of hfl⟩, ?_⟩
  have seen8 := seen7.keep s8
  refine for_list (xs := as.map V.ref) (fun i σ G => Fr1 sd H8 G ∧ St G d c l m2 ∧ (∃ L1, SeenAt P w G sd L1 ∧ SeenOk us ([] ++ X ++ [fm]) L1) ∧ ∃ y7 y8 y9 y10 y11, σ = [some (.ref d), some (.ref p), some fv, some (.ref ra), some (.ref tb), some (.ref sd), some (.int (([] ++ X).length : Nat)), y7, y8, y9, y10, y11])
    ⟨Fr1.refl sd H8, S7.keep s8, ⟨[], seen8, fun e he => by cases he⟩, none, none, none, none, none, rfl⟩ (fun i σ G _ h => SqL.of (seen8.lst h.1 hfl)) ?_ ?_
  · rintro i x σ G hx ⟨fr, SG, ⟨L1, seG, sokG⟩, y7, y8, y9, y10, y11, rfl⟩
    obtain ⟨a, ha, rfl⟩ := at_ref hx
    obtain ⟨near, hnear, ta8⟩ := RA.get ha
    obtain ⟨vn, tn⟩ := hLL near (List.mem_of_getElem? hnear)
    have t8G := seen8.tups fr
    have ta : TI G a near := t8G _ _ ta8
    have hpG : TI G p us := t8G _ _ (s8 _ _ (t7 _ _ hp2))
    refine ⟨_, rfl, _, rfl, p, a, us, near, rfl, hpG, hu, hl2, ta, vn, by omega, fun H9 ml M ms s9 hml RM hM lM => ?_⟩
    have tab9 : TabAt H9 tb ([] ++ X ++ [fm]) es := ((tab7.same s8).fr seen8 fr).same s9
    refine ⟨_, rfl, _, rfl, _, rfl, _, rfl, _, rfl, p, tb, a, sd, ([] ++ X).length, us, near, _, es, fm, L1, rfl, s9 _ _ hpG, hu, hl2, tab9, hT, hTi, dd.1, fine.1, dsh.2.1, s9 _ _ ta, vn, tn, seG.keep s9, sokG, fun H10 L2 f10 se10 sok10 => ?_⟩
    have hml10 := (seG.keep s9).lst f10 hml
    have t10 := (seG.keep s9).tups f10
    have tGA : SameT G H10 := (tups s9).trans t10
    have tA : SameT H7 H10 := ((tups s8).trans t8G).trans tGA
    have RM10 := RM.keep t10
    have hra10 := tA _ _ hra7
    have RR10 := RR7.keep tA
    refine ⟨_, rfl, ra, rfl, ⟨_, SqT.of hra10⟩, fun D1 hD1 => lc_it (walk_tup (xs := rs.map V.ref)) (fun j G4 => Same H10 G4 ∧ G4 D1 = some (.lst ((ones (((rowsF us fm).take j).countP fun o => sv us o near)).map V.int)))
      ⟨same_new hD1, upd_same⟩ (fun j G4 _ h => SqT.of (h.1 _ _ hra10)) ?_ ?_⟩
    · rintro j x G4 G5 hj ⟨sm4, hG4⟩ ⟨rfl, hxj⟩
      obtain ⟨b, hb, rfl⟩ := at_ref hxj
      obtain ⟨o, ho, tbo⟩ := RR10.get hb
      have vo := fvv.1 o (List.mem_of_getElem? ho)
      have cs := countP_snoc (fun o => sv us o near) ho
      refine ⟨rfl, _, rfl, _, rfl, ml, b, ms, M, o, rfl, sm4 _ _ hml10, RM10.keep (tups sm4), sm4 _ _ tbo, by have := vo.1; omega, by have := vo.1; omega, fun x hx => ?_, fun G6 s6' => ⟨_, rfl, ?_⟩⟩
      · rw [(reach_vr hu.pos vn ((hM x).mp hx)).1.1, vo.1]
      · rw [any_fits hu.pos vo vn hM]
        cases ql : sv us o near with
        | false =>
          refine iteF ⟨sm4.trans s6', ?_⟩
          rw [cs, ql]
          exact s6' _ _ hG4
        | true =>
          refine iteT ⟨_, s6' _ _ hG4, ?_, same_wr (sm4.trans s6') hD1, ?_⟩
          · rw [ones_len]
            refine small60 (Nat.le_trans List.countP_le_length ?_)
            rw [List.length_take]
            have := dd.2.len
            omega
          · rw [upd_same, cs, ql]
            exact congrArg (fun l => some (HO.lst l)) (ones_snoc _).symm
    rintro G4 ⟨sm4, hG4⟩
    rw [show (rs.map V.ref).length = (rowsF us fm).length by rw [List.length_map, RR10.len], List.take_length] at hG4
    refine ⟨by show 0 ≤ sizeLine; decide, fun e he => ?_⟩
    have s11 := same_new (o := .lst []) he
    refine ne_lst (ms := []) (s11 _ _ hG4) upd_same ?_
    rw [ones_eq, countP_any, Bool.not_not]
    have sA := sm4.trans s11
    have tB : SameT H7 (upd G4 e (.lst [])) := tA.trans (tups sA)
    refine ⟨_, rfl, _, rfl, rfl, _, rfl, iteNS rfl ?_⟩
    have faB : FA (upd G4 e (.lst [])) fm fv := FA.keep (t7.trans tB) fm fv fa2
    have nsl := ns7
    have nsx : sd ≠ d ∧ sd ≠ c ∧ sd ≠ l := ns7
    refine ⟨_, rfl, _, rfl, _, rfl, p, a, fv, us, near, fm, rfl, tB _ _ (t7 _ _ hp2), hu, faB, fine, Nat.le_trans dd.2.len (by decide), (tGA.trans (tups sA)) _ _ ta, rowB_of hu.pos vn tn, fun H12 s12 => ?_⟩
    refine ⟨_, rfl, enF us fm near, rfl, true, rfl, iteF ?_⟩
    exact ⟨fr.trans ((fr1_same s9).trans (f10.trans (fr1_same (sA.trans s12)))), (((SG.keep s9).fr1 f10 nsx).keep sA).keep s12, ⟨L2, (se10.keep sA).keep s12, sok10⟩, _, _, _, _, _, rfl⟩
  · rintro σ G ⟨fr, SG, _, y7, y8, y9, y10, y11, rfl⟩
    exact k G m2 (fr_fr1 (f07.trans (fr_same s8)) fr hsdH) SG (by omega) (by omega)
end
end SR

namespace SR
open PySem PySem.Spec PyProof.Rows L2 SY
/-! ### what a display makes -/
def Mk (σ : L2.St) (H0 : Hp) (te : TE) (R : Hp → V → Prop) : Prop := ∀ (H : Hp) (Q : VK), SameT H0 H → (∀ v H', Same H H' → R H' v → Q v H') → te σ H Q
def MkA (σ : L2.St) (H0 : Hp) (ta : TA) (R : Hp → List V → Prop) : Prop := ∀ (H : Hp) (Q : List V → Hp → Prop), SameT H0 H → (∀ vs H', Same H H' → R H' vs → Q vs H') → ta σ H Q
theorem Mk.go {σ : L2.St} {H : Hp} {te : TE} {Q : VK} (R : Hp → V → Prop) (h : Mk σ H te R) (k : ∀ v H', Same H H' → R H' v → Q v H') : te σ H Q := h H Q (SameT.refl H) k
theorem MkA.go {σ : L2.St} {H : Hp} {ta : TA} {Q : List V → Hp → Prop} (R : Hp → List V → Prop) (h : MkA σ H ta R) (k : ∀ vs H', Same H H' → R H' vs → Q vs H') : ta σ H Q := h H Q (SameT.refl H) k
/-- stays with the tuples -/
def Kp {α : Type} (R : Hp → α → Prop) : Prop := ∀ H H' a, SameT H H' → R H a → R H' a
def RI (r : List Int) (H : Hp) (v : V) : Prop := ∃ q, v = .ref q ∧ TI H q r
def RAs (L : List (List Int)) (H : Hp) (vs : List V) : Prop := ∃ cs : List Addr, vs = cs.map V.ref ∧ Rows H cs L
def FSA (fs : List Form) (H : Hp) (v : V) : Prop := ∃ q as, v = .ref q ∧ H q = some (.tup as) ∧ FAs H fs as
def WP (p : Form × List (List Int)) (H : Hp) (v : V) : Prop := ∃ q a b, v = .ref q ∧ H q = some (.tup [a, b]) ∧ FA H p.1 a ∧ RowsAt H b p.2
def WPs : List (Form × List (List Int)) → Hp → List V → Prop
  | [], _, vs => vs = []
  | p :: ps, H, vs => ∃ v r, vs = v :: r ∧ WP p H v ∧ WPs ps H r
theorem kp_ri {r : List Int} : Kp (RI r) := fun _ _ _ s ⟨q, e, h⟩ => ⟨q, e, s _ _ h⟩
theorem kp_ras {L : List (List Int)} : Kp (RAs L) := fun _ _ _ s ⟨cs, e, h⟩ => ⟨cs, e, h.keep s⟩
theorem kp_fa {f : Form} : Kp (fun H v => FA H f v) := fun _ _ v s h => FA.keep s f v h
theorem kp_fas {fs : List Form} : Kp (fun H v => FAs H fs v) := fun _ _ v s h => FAs.keep s fs v h
theorem kp_fsa {fs : List Form} : Kp (FSA fs) := fun _ _ _ s ⟨q, as, e, h1, h2⟩ => ⟨q, as, e, s _ _ h1, FAs.keep s fs as h2⟩
theorem kp_wp {p : Form × List (List Int)} : Kp (WP p) := fun _ _ _ s ⟨q, a, b, e, h1, h2, h3⟩ => ⟨q, a, b, e, s _ _ h1, FA.keep s _ _ h2, h3.keep s⟩
theorem kp_wps : ∀ ps : List (Form × List (List Int)), Kp (WPs ps)
  | [] => fun _ _ _ _ h => h
  | p :: ps => fun H H' vs s ⟨v, r, e, h1, h2⟩ => ⟨v, r, e, kp_wp H H' v s h1, kp_wps ps H H' r s h2⟩
theorem WPs.len : ∀ {ps : List (Form × List (List Int))} {H : Hp} {vs : List V}, WPs ps H vs → vs.length = ps.length
  | [], _, _, h => by rw [show _ = [] from h]; rfl
  | p :: ps, H, vs, ⟨v, r, e, _, h2⟩ => by rw [e, List.length_cons, List.length_cons, WPs.len h2]
theorem WPs.append : ∀ {ps qs : List (Form × List (List Int))} {H : Hp} {vs us : List V}, WPs ps H vs → WPs qs H us → WPs (ps ++ qs) H (vs ++ us)
  | [], _, _, _, _, h, q => by rw [show _ = [] from h]; exact q
  | p :: ps, qs, H, vs, us, ⟨v, r, e, h1, h2⟩, q => by
    rw [e]
    exact ⟨v, r ++ us, rfl, h1, WPs.append h2 q⟩
theorem WPs.get : ∀ {ps : List (Form × List (List Int))} {H : Hp} {vs : List V}, WPs ps H vs → ∀ {i : Nat} {v : V}, vs[i]? = some v → ∃ p, ps[i]? = some p ∧ WP p H v
  | [], _, _, h, i, v, e => by rw [show _ = [] from h] at e; simp at e
  | p :: ps, H, vs, ⟨x, r, e0, h1, h2⟩, i, v, e => by
    rw [e0] at e
    cases i with
    | zero => simp at e; subst e; exact ⟨p, rfl, h1⟩
    | succ i => simp at e; simpa using WPs.get h2 e
section
variable {σ : L2.St} {H0 : Hp}
theorem mk_int {x : Int} : Mk σ H0 (tC (.int x)) (fun _ v => v = .int x) := fun H Q _ k => k _ H (Same.refl H) rfl
theorem mk_pow : Mk σ H0 (tOp (rI CPow fun i j => .int (i ^ j.toNat)) (tC (.int 10)) (tC (.int 60))) (fun _ v => v = .int (10 ^ 60)) := fun H Q _ k => ⟨_, _, rfl, rfl, ⟨by decide, by decide, by decide⟩, k _ H (Same.refl H) rfl⟩
theorem mk_mul {te : TE} {x : Int} (h : Mk σ H0 te (fun _ v => v = .int x)) : Mk σ H0 (tOp (rI CMul fun i j => .int (i * j)) (tC (.int 2)) te) (fun _ v => v = .int (2 * x)) := fun H Q s k =>
  h H _ s fun v H1 s1 e => ⟨_, _, rfl, e, .inl ⟨by decide, by decide⟩, k _ H1 s1 rfl⟩
theorem mk_row2 {ta tb : TE} {x y : Int} (h1 : Mk σ H0 ta (fun _ v => v = .int x)) (h2 : Mk σ H0 tb (fun _ v => v = .int y)) : Mk σ H0 (tTup (tCons ta (tCons tb tNil))) (RI [x, y]) := fun H Q s k =>
  h1 H _ s fun v H1 s1 e1 => h2 H1 _ (s.trans (tups s1)) fun u H2 s2 e2 => by
    subst e1 e2
    exact ⟨by show 2 ≤ sizeLine; decide, fun p hp => k _ _ (s1.trans (s2.trans (same_new hp))) ⟨p, rfl, upd_same⟩⟩
theorem mk_fr {te : TE} {r : List Int} (h : Mk σ H0 te (RI r)) : Mk σ H0 (tTup (tCons (tC (.str "row")) (tCons te tNil))) (fun H v => FA H (.row r) v) := fun H Q s k =>
  h H _ s fun v H1 s1 ⟨q, e, hq⟩ => by
    subst e
    refine ⟨by show 2 ≤ sizeLine; decide, fun p hp => k _ _ (s1.trans (same_new hp)) ?_⟩
    simp only [FA]
    exact ⟨p, q, rfl, upd_same, same_new hp _ _ hq⟩
theorem mk_node {wd : Wd} {te : TE} {fs : List Form} (h : Mk σ H0 te (FSA fs)) : Mk σ H0 (tTup (tCons (tC (.str (wdS wd))) (tCons te tNil))) (fun H v => FA H (.node wd fs) v) := fun H Q s k =>
  h H _ s fun v H1 s1 ⟨q, as, e, h1, h2⟩ => by
    subst e
    refine ⟨by show 2 ≤ sizeLine; decide, fun p hp => k _ _ (s1.trans (same_new hp)) ?_⟩
    simp only [FA]
    exact ⟨p, q, as, rfl, upd_same, same_new hp _ _ h1, FAs.keep (tups (same_new hp)) fs as h2⟩
theorem mk_one {te : TE} {fs : List Form} (h : Mk σ H0 te (FSA fs)) : Mk σ H0 (tTup (tCons (tC (.str "one")) (tCons te tNil))) (fun H v => FA H (.node .one fs) v) := mk_node (wd := .one) h
theorem mk_any {te : TE} {fs : List Form} (h : Mk σ H0 te (FSA fs)) : Mk σ H0 (tTup (tCons (tC (.str "any")) (tCons te tNil))) (fun H v => FA H (.node .any fs) v) := mk_node (wd := .any) h
theorem mk_tog {te : TE} {fs : List Form} (h : Mk σ H0 te (FSA fs)) : Mk σ H0 (tTup (tCons (tC (.str "together")) (tCons te tNil))) (fun H v => FA H (.node .tog fs) v) := mk_node (wd := .tog) h
theorem mk_fs {ta : TA} {fs : List Form} (hl : fs.length ≤ 1000) (h : MkA σ H0 ta (fun H vs => FAs H fs vs)) : Mk σ H0 (tTup ta) (FSA fs) := fun H Q s k =>
  h H _ s fun vs H1 s1 hv => ⟨by rw [hv.len]; exact Nat.le_of_lt (small60 (by omega)), fun p hp => k _ _ (s1.trans (same_new hp)) ⟨p, vs, rfl, upd_same, FAs.keep (tups (same_new hp)) fs vs hv⟩⟩
theorem mkA_fnil : MkA σ H0 tNil (fun H vs => FAs H [] vs) := fun H Q _ k => k _ H (Same.refl H) (by simp only [FAs])
theorem mkA_fcons {te : TE} {ta : TA} {f : Form} {fs : List Form} (h1 : Mk σ H0 te (fun H v => FA H f v)) (h2 : MkA σ H0 ta (fun H vs => FAs H fs vs)) : MkA σ H0 (tCons te ta) (fun H vs => FAs H (f :: fs) vs) := fun H Q s k =>
  h1 H _ s fun v H1 s1 hv => h2 H1 _ (s.trans (tups s1)) fun vs H2 s2 hvs => k _ _ (s1.trans s2) (by simp only [FAs]; exact ⟨v, vs, rfl, FA.keep (tups s2) f v hv, hvs⟩)
theorem mk_varF {i : Nat} {v : V} {f : Form} (h1 : σ[i]? = some (some v)) (h2 : FA H0 f v) : Mk σ H0 (tVar i) (fun H v => FA H f v) := fun H Q s k => ⟨v, h1, k v H (Same.refl H) (FA.keep s f v h2)⟩
theorem mk_rows {ta : TA} {L : List (List Int)} (hl : L.length ≤ 1000) (h : MkA σ H0 ta (RAs L)) : Mk σ H0 (tTup ta) (fun H v => RowsAt H v L) := fun H Q s k =>
  h H _ s fun vs H1 s1 ⟨cs, e, R⟩ => by
    subst e
    exact ⟨by rw [List.length_map, R.len]; exact Nat.le_of_lt (small60 (by omega)), fun p hp => k _ _ (s1.trans (same_new hp)) ⟨p, cs, rfl, upd_same, R.keep (tups (same_new hp))⟩⟩
theorem mkA_rnil : MkA σ H0 tNil (RAs []) := fun H Q _ k => k _ H (Same.refl H) ⟨[], rfl, .nil⟩
theorem Rows.cons {H : Hp} {a : Addr} {as : List Addr} {r : List Int} {L : List (List Int)} (h : TI H a r) (R : Rows H as L) : Rows H (a :: as) (r :: L) := (Rows.one h).append R
theorem mkA_rcons {te : TE} {ta : TA} {r : List Int} {L : List (List Int)} (h1 : Mk σ H0 te (RI r)) (h2 : MkA σ H0 ta (RAs L)) : MkA σ H0 (tCons te ta) (RAs (r :: L)) := fun H Q s k =>
  h1 H _ s fun v H1 s1 ⟨q, e, hq⟩ => h2 H1 _ (s.trans (tups s1)) fun vs H2 s2 ⟨cs, e2, R⟩ => by
    subst e e2
    exact k _ _ (s1.trans s2) ⟨q :: cs, rfl, .cons (s2 _ _ hq) R⟩
theorem mk_pair {ta tb : TE} {f : Form} {L : List (List Int)} (h1 : Mk σ H0 ta (fun H v => FA H f v)) (h2 : Mk σ H0 tb (fun H v => RowsAt H v L)) : Mk σ H0 (tTup (tCons ta (tCons tb tNil))) (WP (f, L)) := fun H Q s k =>
  h1 H _ s fun v H1 s1 hv => h2 H1 _ (s.trans (tups s1)) fun u H2 s2 hu => ⟨by show 2 ≤ sizeLine; decide, fun p hp => k _ _ (s1.trans (s2.trans (same_new hp))) ⟨p, v, u, rfl, upd_same, FA.keep (tups (s2.trans (same_new hp))) f v hv, hu.keep (tups (same_new hp))⟩⟩
theorem mkA_wnil : MkA σ H0 tNil (WPs []) := fun H Q _ k => k _ H (Same.refl H) rfl
theorem mkA_wcons {te : TE} {ta : TA} {p : Form × List (List Int)} {ps : List (Form × List (List Int))} (h1 : Mk σ H0 te (WP p)) (h2 : MkA σ H0 ta (WPs ps)) : MkA σ H0 (tCons te ta) (WPs (p :: ps)) := fun H Q s k =>
  h1 H _ s fun v H1 s1 hv => h2 H1 _ (s.trans (tups s1)) fun vs H2 s2 hvs => k _ _ (s1.trans s2) ⟨v, vs, rfl, kp_wp _ _ v (tups s2) hv, hvs⟩
end
/-! ### a def that runs where no repr is under way, by its name -/
structure ClG (P : Program) (w : World) (K : PySem.W.Frag) (mg : Str → Option Value) (base : Heap) (k : Nat) (x : Str) (ps : List Str) (sp : Sp) : Prop where
  ex : ∃ (f : Addr) (fd : FuncData), FnG P w K mg base k f fd ps sp ∧ mg x = some (.ref f) ∧ PySem.W.keepIn K (.ref f) = true ∧ L2.Binds K fd ps []
section
variable {P : Program} {w : World} {K : PySem.W.Frag} {mg : Str → Option Value} {base : Heap} {x : Str} {st : Stmt} {N ps : List Str} {k j : Nat} {sp : Sp}
theorem clg_of (D : Df K mg x st ps) (S : FnScope N ps (defScope st)) (len : ∀ vs H Q E, sp vs H Q E → vs.length = ps.length)
    (hbody : ∀ (f : Addr) (cdv : Value) (A : Around) (outer : List Env) (s : Shared) (H : Hp) (vs : List V) (Q : VK) (E : XK), A.guards = some [] → Room k (A.deeper (envOfC x (defScope st) s.heap.objs.size f cdv)) → sp vs H Q E →
      ∃ t, PSs (cxOf CX0 P w K mg base N x (defScope st) f cdv A outer s H E).nox (defBody st) t ∧ t { nx := fun _ H' => Q .non H', rt := Q } (start N vs) H) : ClG P w K mg base (k + 1) x ps sp := by
  obtain ⟨f, fd, F, hm, b⟩ := D.ex
  exact ⟨f, fd, fnG_of F S len (fun cdv A outer s H vs Q E => hbody f cdv A outer s H vs Q E), hm, F.kp, b⟩
end
theorem pe_clg {X : Cx} {k j : Nat} {x : Str} {ps : List Str} {sp : Sp} {p pos : Pos} {e : Expr} {es : List Expr} {t : TA} (c : ClG X.prog X.w X.K X.mg X.base k x ps sp) (hgd : X.A.guards = some []) (hr : Room j X.A) (hk : k ≤ j) (hg : Gl X x) (ha : PA X (e :: es) t)
    (hdb : (x == ("__debug__" : Str)) = false := by decide) (he : starEach (e :: es) X.env = (false, eval e X.env) :: starEach es X.env := by rfl) (hpl : (backTo pos (starEach es X.env)).any (·.1) = false := by rfl) :
    PE X (.Call (.Name x p) (e :: es) [] pos) (tCall sp [] E0 t) := by
  obtain ⟨f, fd, F, hm, kp, b⟩ := c.ex
  exact pe_callG F hgd (hr.mono hk) hg hm kp b ha hdb he hpl
def Shw (L : List (List Int)) : Prop := (rowsD L).showable = true ∧ (rowsD L).hasDict = false ∧ (rowsD L).depth ≤ 40 ∧ (rowsD L).shown.length ≤ 1000000
instance (L : List (List Int)) : Decidable (Shw L) := inferInstanceAs (Decidable (_ ∧ _ ∧ _ ∧ _))
theorem written_shw : ∀ p ∈ written, Shw p.2 := by decide +kernel
section
variable {P : Program} {w : World} {K : PySem.W.Frag} {mg : Str → Option Value} {base : Heap}
def spLikeD : Sp := fun vs H Q _ => ∃ (v u : V) (L : List (List Int)), vs = [v, u] ∧ RowsAt H v L ∧ RowsAt H u L ∧ Shw L ∧ Q (.bl true) H
theorem ok_likeD (D : Df K mg "_law_like" s_law_like ["_law_got", "_law_due"]) (B : Bi mg) : ClG P w K mg base 1 "_law_like" ["_law_got", "_law_due"] spLikeD := by
  refine clg_of D c_law_like (fun vs H Q E h => ?_) (fun f cdv A outer s H vs Q E hg hr h => ?_)
  · obtain ⟨v, u, L, rfl, _⟩ := h
    rfl
  obtain ⟨v, u, L, rfl, hv, hu, ⟨h1, h2, h3, h4⟩, k⟩ := h
  refine ⟨_, (pss_one (ps_ret (pe_cmpR op_eq (pe_callB (cr_reprD hr hg) (by rfl) B.rep (by decide +kernel) (pa_cons (pv 0) pa_nil)) (pe_callB (cr_reprD hr hg) (by rfl) B.rep (by decide +kernel) (pa_cons (pv 1) pa_nil)) (by rfl)))), ?_⟩
  have e1 := dp_rowsAt (K := K) hv
  have e2 := dp_rowsAt (K := K) hu
  obtain ⟨a, _, rfl, _⟩ := hv
  obtain ⟨b, _, rfl, _⟩ := hu
  refine ⟨_, rfl, a, rowsD L, rfl, e1, h1, h2, h3, Nat.le_of_lt (small60 h4), _, rfl, b, rowsD L, rfl, e2, h1, h2, h3, Nat.le_of_lt (small60 h4), rfl, ?_⟩
  rw [decide_eq_true rfl]
  exact k
end
end SR

namespace SR
open PySem PySem.Spec PyProof.Rows L2 SY
/-- the written ones, as far as they go -/
structure Wrt (G : Hp) (rl : Addr) (ps : List (Form × List (List Int))) (v3 v1 : V) : Prop where
  ex : ∃ vs, G rl = some (.lst vs) ∧ WPs ps G vs
  three : FA G fThree v3
  one : FA G fOne v1
theorem Wrt.same {G G' : Hp} {rl : Addr} {ps : List (Form × List (List Int))} {v3 v1 : V} (h : Wrt G rl ps v3 v1) (s : Same G G') : Wrt G' rl ps v3 v1 :=
  let ⟨vs, h1, h2⟩ := h.ex
  ⟨⟨vs, s _ _ h1, kp_wps ps _ _ vs (tups s) h2⟩, FA.keep (tups s) _ _ h.three, FA.keep (tups s) _ _ h.one⟩
theorem Wrt.put {G : Hp} {rl : Addr} {ps : List (Form × List (List Int))} {p : Form × List (List Int)} {v3 v1 v : V} {vs : List V} (h : Wrt G rl ps v3 v1) (e : G rl = some (.lst vs)) (q : WP p G v) : Wrt (upd G rl (.lst (vs ++ [v]))) rl (ps ++ [p]) v3 v1 := by
  obtain ⟨vs', e', hw⟩ := h.ex
  rw [e'] at e
  cases e
  have T : SameT G (upd G rl (.lst (vs ++ [v]))) := fun b xs z => by
    rw [upd_ne (fun y => by rw [y, e'] at z; cases z)]
    exact z
  exact ⟨⟨_, upd_same, (kp_wps ps _ _ vs T hw).append ⟨v, [], rfl, kp_wp _ _ v T q, rfl⟩⟩, FA.keep T _ _ h.three, FA.keep T _ _ h.one⟩
theorem seq_asg {te : TE} {g : TG} {u : TS} {D : Ends} {σ : L2.St} {H : Hp} (R : Hp → V → Prop) (h : Mk σ H te R) (k : ∀ v H', Same H H' → R H' v → g v σ H' (u D)) : tSeq (tAsg te g) u D σ H := h H _ (SameT.refl H) k
theorem seq_lst {ta : TA} {g : TG} {u : TS} {D : Ends} {σ : L2.St} {H : Hp} (R : Hp → List V → Prop) (kR : Kp R) (hl : ∀ H vs, R H vs → vs.length ≤ 1000) (h : MkA σ H ta R) (k : ∀ vs l H', Same H H' → H' l = some (.lst vs) → R H' vs → g (.ref l) σ H' (u D)) : tSeq (tAsg (tLst ta) g) u D σ H :=
  h H _ (SameT.refl H) fun vs H1 s1 hv => ⟨Nat.le_of_lt (small60 (by have := hl _ _ hv; omega)), fun p hp => k vs p _ (s1.trans (same_new hp)) upd_same (kR _ _ _ (tups (same_new hp)) hv)⟩
theorem seq_app {K : PySem.W.Frag} {te : TE} {u : TS} {D : Ends} {σ : L2.St} {H : Hp} {i : Nat} {rl : Addr} {ps : List (Form × List (List Int))} {p : Form × List (List Int)} {v3 v1 : V} (hv : σ[i]? = some (some (.ref rl))) (W : Wrt H rl ps v3 v1) (hl : ps.length ≤ 1000)
    (h : Mk σ H te (WP p)) (k : ∀ H', Wrt H' rl (ps ++ [p]) v3 v1 → SameT H H' → u D σ H') : tSeq (tDrop (tBM K "list" rAppend (tVar i) (tCons te tNil))) u D σ H := by
  obtain ⟨vs, e, hw⟩ := W.ex
  refine ⟨.ref rl, hv, .inl ⟨rfl, vs, SqL.of e⟩, h H _ (SameT.refl H) fun v H1 s1 hp => ⟨rl, vs, v, rfl, rfl, s1 _ _ e, by rw [hw.len]; exact small60 (by omega), k _ ((W.same s1).put (s1 _ _ e) hp) ?_⟩⟩
  refine (tups s1).trans fun b xs z => ?_
  rw [upd_ne (fun y => by rw [y, s1 _ _ e] at z; cases z)]
  exact z
theorem seq_cat {ta : TA} {g : TG} {u : TS} {D : Ends} {σ : L2.St} {H : Hp} {i : Nat} {rl : Addr} {ps qs : List (Form × List (List Int))} {v3 v1 : V} (hv : σ[i]? = some (some (.ref rl))) (W : Wrt H rl ps v3 v1) (hl : ps.length + qs.length ≤ 1000)
    (h : MkA σ H ta (WPs qs)) (k : ∀ H' rl', Wrt H' rl' (ps ++ qs) v3 v1 → SameT H H' → g (.ref rl') σ H' (u D)) : tSeq (tAsg (tOp rCat (tVar i) (tLst ta)) g) u D σ H := by
  obtain ⟨vs, e, hw⟩ := W.ex
  refine ⟨.ref rl, hv, h H _ (SameT.refl H) fun us H1 s1 hu => ⟨by rw [hu.len]; exact Nat.le_of_lt (small60 (by omega)), fun p hp => ?_⟩⟩
  have s2 := same_new (o := .lst us) hp
  have W2 := (W.same s1).same s2
  refine ⟨rl, p, vs, us, rfl, rfl, s2 _ _ (s1 _ _ e), upd_same, by rw [hw.len, hu.len]; exact Nat.le_of_lt (small60 (by omega)), fun z hz => ?_⟩
  have s3 := same_new (o := .lst (vs ++ us)) hz
  have t := tups (s1.trans (s2.trans s3))
  refine k _ z ⟨⟨_, upd_same, ?_⟩, (W2.same s3).three, (W2.same s3).one⟩ t
  exact (kp_wps ps _ _ vs t hw).append (kp_wps qs _ _ us (tups (s2.trans s3)) hu)
def sevens : List Form := (List.range 7).map sevenR
theorem sevens_at {i : Nat} (h : i < 7) : sevens[i]? = some (sevenR i) := by
  unfold sevens
  rw [List.getElem?_map, List.getElem?_range h]
  rfl
def dueL : List (List Int) := [[0, 70], [1, 65], [2, 60], [3, 55], [4, 50], [5, 45], [6, 40]]
theorem due_at : ∀ i : Nat, i < 7 → dueL[i]? = some [(i : Int), 70 - 5 * (i : Int)] := by decide
section
variable {P : Program} {w : World} {K : PySem.W.Frag} {mg : Str → Option Value} {base : Heap}
def spLaw (K : PySem.W.Frag) : Sp := fun vs H Q _ => ∃ (a : Addr) (ns : List Int), vs = [.ref a] ∧ SqL K H a (ns.map V.int) ∧ ns.length ≤ 63 ∧ ∀ H', Q (.bl true) H'
theorem ok_law {fa : Addr} {fd : FuncData} (F0 : Fun K "law" "law" s_law fa fd) (B : Bi mg) (F__law_begin : Cl P w K mg base 1 "_law_begin" ["_law_script"] (spBegin K)) (F__law_right : Cl P w K mg base 27 "_law_right" ["_law_state"] spRight)
    (F_formula_stocks : Cl P w K mg base 12 "formula_stocks" ["units", "formula"] spStocks) (FL : ClG P w K mg base 1 "_law_like" ["_law_got", "_law_due"] spLikeD) : FnG P w K mg base 28 fa fd ["_law_script"] (spLaw K) := by
  refine fnG_of F0 c_law (fun vs H Q E h => ?_) (fun cdv A outer s H vs Q E hg hr h => ?_)
  · obtain ⟨a, ns, rfl, _⟩ := h
    rfl
  obtain ⟨a, ns, rfl, hS, hn, k⟩ := h
  refine ⟨_, (pss_cons (ps_set (i := 1) c_law.nd rfl (by first | exact .inl rfl | exact .inr rfl) (pe_cl F__law_begin hr (by omega) (by rfl) (pa_cons (pv 0) pa_nil))) (pss_cons (ps_for PassesOwn.never rfl (pi_range1 (by rfl) B.rng (pa_cons pe_int pa_nil)) (pg_name (i := 2) c_law.nd rfl (by first | exact .inl rfl | exact .inr rfl)) (pss_one (ps_if (pt_not (pt_val (pe_cl F__law_right hr (by omega) (by rfl) (pa_cons (pv 1) pa_nil)))) (pss_one (ps_ret pe_bl)) pss_nil))) (pss_cons (ps_asg (pe_tup (pa_cons (pe_tup (pa_cons pe_str (pa_cons (pe_tup (pa_cons pe_int (pa_cons pe_int pa_nil))) pa_nil))) (pa_cons (pe_tup (pa_cons pe_str (pa_cons (pe_tup (pa_cons (pe_tup (pa_cons pe_str (pa_cons (pe_tup (pa_cons pe_int (pa_cons pe_int pa_nil))) pa_nil))) (pa_cons (pe_tup (pa_cons pe_str (pa_cons (pe_tup (pa_cons pe_int (pa_cons pe_int pa_nil))) pa_nil))) (pa_cons (pe_tup (pa_cons pe_str (pa_cons (pe_tup (pa_cons pe_int (pa_cons pe_int pa_nil))) pa_nil))) pa_nil)))) pa_nil))) pa_nil))) (pg_tup rfl (pgs_cons (pg_name (i := 3) c_law.nd rfl (by first | exact .inl rfl | exact .inr rfl)) (pgs_cons (pg_name (i := 4) c_law.nd rfl (by first | exact .inl rfl | exact .inr rfl)) pgs_nil)))) (pss_cons (ps_set (i := 5) c_law.nd rfl (by first | exact .inl rfl | exact .inr rfl) (pe_lst (pa_cons (pe_tup (pa_cons (pv 4) (pa_cons (pe_tup (pa_cons (pe_tup (pa_cons pe_int (pa_cons pe_int pa_nil))) (pa_cons (pe_tup (pa_cons pe_int (pa_cons pe_int pa_nil))) pa_nil))) pa_nil))) (pa_cons (pe_tup (pa_cons (pe_tup (pa_cons pe_str (pa_cons (pe_tup (pa_cons (pv 4) (pa_cons (pe_tup (pa_cons pe_str (pa_cons (pe_tup (pa_cons pe_int (pa_cons pe_int pa_nil))) pa_nil))) pa_nil))) pa_nil))) (pa_cons (pe_tup (pa_cons (pe_tup (pa_cons pe_int (pa_cons pe_int pa_nil))) (pa_cons (pe_tup (pa_cons pe_int (pa_cons pe_int pa_nil))) pa_nil))) pa_nil))) pa_nil)))) (pss_cons (ps_expr (pe_bm PySem.F.plainAttrs_list PySem.F.slot_list_append PySem.F.type_list_append mt_append (pv 5) (pa_cons (pe_tup (pa_cons (pe_tup (pa_cons pe_str (pa_cons (pe_tup (pa_cons (pv 4) (pa_cons (pe_tup (pa_cons pe_str (pa_cons (pe_tup (pa_cons pe_int (pa_cons pe_int pa_nil))) pa_nil))) pa_nil))) pa_nil))) (pa_cons (pe_tup (pa_cons (pe_tup (pa_cons pe_int (pa_cons pe_int pa_nil))) (pa_cons (pe_tup (pa_cons pe_int (pa_cons pe_int pa_nil))) pa_nil))) pa_nil))) pa_nil))) (pss_cons (ps_set (i := 5) c_law.nd rfl (by first | exact .inl rfl | exact .inr rfl) (pe_op op_cat (pv 5) (pe_lst (pa_cons (pe_tup (pa_cons (pe_tup (pa_cons pe_str (pa_cons (pe_tup pa_nil) pa_nil))) (pa_cons (pe_tup pa_nil) pa_nil))) (pa_cons (pe_tup (pa_cons (pe_tup (pa_cons pe_str (pa_cons (pe_tup pa_nil) pa_nil))) (pa_cons (pe_tup (pa_cons (pe_tup (pa_cons pe_int (pa_cons pe_int pa_nil))) pa_nil)) pa_nil))) (pa_cons (pe_tup (pa_cons (pe_tup (pa_cons pe_str (pa_cons (pe_tup pa_nil) pa_nil))) (pa_cons (pe_tup (pa_cons (pe_tup (pa_cons pe_int (pa_cons pe_int pa_nil))) pa_nil)) pa_nil))) (pa_cons (pe_tup (pa_cons (pe_tup (pa_cons pe_str (pa_cons (pe_tup (pa_cons (pv 3) pa_nil)) pa_nil))) (pa_cons (pe_tup (pa_cons (pe_tup (pa_cons pe_int (pa_cons pe_int pa_nil))) pa_nil)) pa_nil))) pa_nil))))))) (pss_cons (ps_expr (pe_bm PySem.F.plainAttrs_list PySem.F.slot_list_append PySem.F.type_list_append mt_append (pv 5) (pa_cons (pe_tup (pa_cons (pe_tup (pa_cons pe_str (pa_cons (pe_tup (pa_cons (pe_tup (pa_cons pe_str (pa_cons (pe_tup (pa_cons (pe_op op_pow pe_int pe_int) (pa_cons pe_int pa_nil))) pa_nil))) (pa_cons (pe_tup (pa_cons pe_str (pa_cons (pe_tup (pa_cons (pe_op op_pow pe_int pe_int) (pa_cons pe_int pa_nil))) pa_nil))) pa_nil))) pa_nil))) (pa_cons (pe_tup (pa_cons (pe_tup (pa_cons (pe_op op_mul pe_int (pe_op op_pow pe_int pe_int)) (pa_cons pe_int pa_nil))) pa_nil)) pa_nil))) pa_nil))) (pss_cons (ps_expr (pe_bm PySem.F.plainAttrs_list PySem.F.slot_list_append PySem.F.type_list_append mt_append (pv 5) (pa_cons (pe_tup (pa_cons (pe_tup (pa_cons pe_str (pa_cons (pe_tup (pa_cons (pe_tup (pa_cons pe_str (pa_cons (pe_tup (pa_cons pe_int (pa_cons pe_int pa_nil))) pa_nil))) (pa_cons (pe_tup (pa_cons pe_str (pa_cons (pe_tup (pa_cons pe_int (pa_cons pe_int pa_nil))) pa_nil))) pa_nil))) pa_nil))) (pa_cons (pe_tup (pa_cons (pe_tup (pa_cons pe_int (pa_cons pe_int pa_nil))) pa_nil)) pa_nil))) pa_nil))) (pss_cons (ps_set (i := 6) c_law.nd rfl (by first | exact .inl rfl | exact .inr rfl) (pe_callTy call_tuple_of (by rfl) B.tup (by decide +kernel) (pa_cons (pe_lc (own := [("_law_step", 7)]) (g := (gName 7)) (tt := tYes) rfl c_law.nd (pi_range1 (by rfl) B.rng (pa_cons pe_int pa_nil)) (blkOk_by (N := ["_law_script", "_law_state", "_law_turn", "_law_three", "_law_one", "_law_rows", "_law_seven", "_law_step", "_law_formula_here", "_law_due"]) (sc := defScope s_law) (by decide +kernel)) (fun _ _ _ _ _ => (pg_name (i := 7) c_law.nd rfl (by first | exact .inl rfl | exact .inr rfl))) (fun _ _ _ _ _ => pts_nil) (fun _ _ _ _ _ => (pe_tup (pa_cons pe_str (pa_cons (pe_tup (pa_cons (pv 7) (pa_cons (pe_op op_sub pe_int (pe_op op_mul pe_int (pv 7))) pa_nil))) pa_nil))))) pa_nil))) (pss_cons (ps_set (i := 6) c_law.nd rfl (by first | exact .inl rfl | exact .inr rfl) (pe_tup (pa_cons pe_str (pa_cons (pe_op op_catA (pe_tup (pa_cons (pe_tup (pa_cons pe_str (pa_cons (pe_slice sl_tup (pv 6) po_none (po_some pe_int)) pa_nil))) pa_nil)) (pe_slice sl_tup (pv 6) (po_some pe_int) po_none)) pa_nil)))) (pss_cons (ps_expr (pe_bm PySem.F.plainAttrs_list PySem.F.slot_list_append PySem.F.type_list_append mt_append (pv 5) (pa_cons (pe_tup (pa_cons (pe_tup (pa_cons pe_str (pa_cons (pe_tup (pa_cons (pv 6) (pa_cons (pv 6) pa_nil))) pa_nil))) (pa_cons (pe_callTy call_tuple_of (by rfl) B.tup (by decide +kernel) (pa_cons (pe_lc (own := [("_law_step", 7)]) (g := (gName 7)) (tt := tYes) rfl c_law.nd (pi_range1 (by rfl) B.rng (pa_cons pe_int pa_nil)) (blkOk_by (N := ["_law_script", "_law_state", "_law_turn", "_law_three", "_law_one", "_law_rows", "_law_seven", "_law_step", "_law_formula_here", "_law_due"]) (sc := defScope s_law) (by decide +kernel)) (fun _ _ _ _ _ => (pg_name (i := 7) c_law.nd rfl (by first | exact .inl rfl | exact .inr rfl))) (fun _ _ _ _ _ => pts_nil) (fun _ _ _ _ _ => (pe_tup (pa_cons (pv 7) (pa_cons (pe_op op_sub pe_int (pe_op op_mul pe_int (pv 7))) pa_nil))))) pa_nil)) pa_nil))) pa_nil))) (pss_one (ps_ret (pe_cmpR (op_eqD (Room.u64 hr)) (pe_lc (own := [("_law_formula_here", 8), ("_law_due", 9)]) (g := (gTup K 2 (gCons (gName 8) (gCons (gName 9) gNil)))) rfl c_law.nd (pi_list (pv 5)) (blkOk_by (N := ["_law_script", "_law_state", "_law_turn", "_law_three", "_law_one", "_law_rows", "_law_seven", "_law_step", "_law_formula_here", "_law_due"]) (sc := defScope s_law) (by decide +kernel)) (fun _ _ _ _ _ => (pg_tup rfl (pgs_cons (pg_name (i := 8) c_law.nd rfl (by first | exact .inl rfl | exact .inr rfl)) (pgs_cons (pg_name (i := 9) c_law.nd rfl (by first | exact .inl rfl | exact .inr rfl)) pgs_nil)))) (fun _ _ _ _ _ => pts_one (pt_not (pt_val (pe_clg FL hg hr (by omega) (by rfl) (pa_cons (pe_cl F_formula_stocks hr (by omega) (by rfl) (pa_cons (pe_tup (pa_cons pe_int pa_nil)) (pa_cons (pv 8) pa_nil))) (pa_cons (pv 9) pa_nil)))))) (fun _ _ _ _ _ => pe_int)) (pe_lst pa_nil) (by rfl))))))))))))))), ?_⟩
  refine ⟨_, rfl, a, ns, rfl, hS, by omega, fun H1 d c l s1 S1 => ?_⟩
  refine ⟨2, rfl, by decide, by decide, for_it (walk_rng0 (n := (2 : Int).toNat)) (fun i σ G => ∃ (m : Int) (y : Option V), St G d c l m ∧ 0 ≤ m ∧ m ≤ 100 * i ∧ σ = [some (.ref a), some (.ref d), y, none, none, none, none, none, none, none])
    ⟨0, none, S1, by omega, by omega, rfl⟩ (fun _ _ _ _ _ => trivial) ?_ ?_⟩
  · rintro i x σ G G' hi ⟨m, y, S, m0, m1, rfl⟩ ⟨rfl, rfl⟩
    have hi2 : i < 2 := hi
    exact ⟨_, rfl, d, c, l, m, rfl, S, m0, by omega, fun H' m' f' S' a0 a1 => ⟨_, rfl, iteF ⟨m', _, S', a0, by omega, rfl⟩⟩⟩
  rintro σ G ⟨m, y, S, m0, m1, rfl⟩
  dsimp only
  refine seq_asg (FSA [fThree, fOne]) ?_ ?_
  · repeat' first
      | exact mk_int | exact mkA_fnil | exact mkA_rnil | apply mkA_fcons | apply mkA_rcons | apply mk_row2 | apply mk_fr | apply mk_one | apply mk_any | apply mk_tog | refine mk_fs (by decide) ?_ | refine mk_rows (by decide) ?_
  rintro v G1 g1 ⟨q, vs, rfl, hq, hv⟩
  simp only [FAs] at hv
  obtain ⟨v3, _, rfl, h3, v1, _, rfl, h1, rfl⟩ := hv
  refine ⟨q, _, rfl, SqT.of hq, rfl, _, _, rfl, _, _, rfl, rfl, ?_⟩
  have WW : Wrt (upd G1 0 (.tup [])) 0 [] v3 v1 ∨ True := .inr trivial
  clear WW
  have WW : FA G1 fThree v3 ∧ FA G1 fOne v1 := ⟨h3, h1⟩
  refine seq_lst (WPs [(fOne, [[0, 3], [1, 0]]), (.node .any [fOne, f01], [[0, 3], [1, 0]])]) (kp_wps _) (fun _ _ h => by rw [WPs.len h]; decide) ?_ ?_
  · repeat' first
      | exact mk_int | exact mk_pow | exact mkA_fnil | exact mkA_rnil | exact mkA_wnil | exact mk_varF rfl WW.2 | exact mk_varF rfl WW.1 | apply mkA_wcons | apply mk_pair | apply mkA_fcons | apply mkA_rcons | apply mk_row2 | apply mk_mul | apply mk_fr | apply mk_one | apply mk_any | apply mk_tog | refine mk_fs (by decide) ?_ | refine mk_rows (by decide) ?_
  intro vs rl G2 g2 hrl hw
  have WW : Wrt G2 rl _ v3 v1 := ⟨⟨vs, hrl, hw⟩, FA.keep (tups g2) _ _ h3, FA.keep (tups g2) _ _ h1⟩
  refine seq_app (p := (.node .tog [fOne, f01], [[0, 4], [1, 1]])) rfl WW (by decide) ?_ ?_
  · repeat' first
      | exact mk_int | exact mk_pow | exact mkA_fnil | exact mkA_rnil | exact mkA_wnil | exact mk_varF rfl WW.one | exact mk_varF rfl WW.three | apply mkA_wcons | apply mk_pair | apply mkA_fcons | apply mkA_rcons | apply mk_row2 | apply mk_mul | apply mk_fr | apply mk_one | apply mk_any | apply mk_tog | refine mk_fs (by decide) ?_ | refine mk_rows (by decide) ?_
  intro G3 WW t3
  refine seq_cat (qs := [(.node .one [], []), (.node .any [], [[0, 0]]), (.node .tog [], [[0, 0]]), (.node .any [fThree], [[0, 3]])]) rfl WW (by decide) ?_ ?_
  · repeat' first
      | exact mk_int | exact mk_pow | exact mkA_fnil | exact mkA_rnil | exact mkA_wnil | exact mk_varF rfl WW.one | exact mk_varF rfl WW.three | apply mkA_wcons | apply mk_pair | apply mkA_fcons | apply mkA_rcons | apply mk_row2 | apply mk_mul | apply mk_fr | apply mk_one | apply mk_any | apply mk_tog | refine mk_fs (by decide) ?_ | refine mk_rows (by decide) ?_
  intro G4 rl2 WW t4
  refine seq_app (p := (.node .tog [.row [10 ^ 60, 0], .row [10 ^ 60, 7]], [[2 * 10 ^ 60, 7]])) rfl WW (by decide) ?_ ?_
  · repeat' first
      | exact mk_int | exact mk_pow | exact mkA_fnil | exact mkA_rnil | exact mkA_wnil | exact mk_varF rfl WW.one | exact mk_varF rfl WW.three | apply mkA_wcons | apply mk_pair | apply mkA_fcons | apply mkA_rcons | apply mk_row2 | apply mk_mul | apply mk_fr | apply mk_one | apply mk_any | apply mk_tog | refine mk_fs (by decide) ?_ | refine mk_rows (by decide) ?_
  intro G5 WW t5
  refine seq_app (p := (.node .any [.row [0, 5], .row [2, 0]], [[2, 1]])) rfl WW (by decide) ?_ ?_
  · repeat' first
      | exact mk_int | exact mk_pow | exact mkA_fnil | exact mkA_rnil | exact mkA_wnil | exact mk_varF rfl WW.one | exact mk_varF rfl WW.three | apply mkA_wcons | apply mk_pair | apply mkA_fcons | apply mkA_rcons | apply mk_row2 | apply mk_mul | apply mk_fr | apply mk_one | apply mk_any | apply mk_tog | refine mk_fs (by decide) ?_ | refine mk_rows (by decide) ?_
  intro G6 WW t6
  refine seq_asg (FSA sevens) ?_ ?_
  · intro H2 Q2 _ k2
    refine ⟨7, rfl, by decide, by decide, fun D0 hD => lc_it (walk_rng0 (n := (7 : Int).toNat)) (fun i G => Same H2 G ∧ ∃ vs, G D0 = some (.lst vs) ∧ FAs G (sevens.take i) vs) ⟨same_new hD, [], upd_same, by simp only [List.take_zero, FAs]⟩ (fun _ _ _ _ => trivial) ?_ ?_⟩
    · rintro i x G7 G8 hi ⟨sm, us, hG, hfs⟩ ⟨rfl, rfl⟩
      have hi7 : i < 7 := hi
      have hsv := sevens_at hi7
      refine ⟨rfl, _, rfl, _, rfl, _, _, rfl, rfl, .inl ⟨by decide, by decide⟩, _, _, rfl, rfl, by show 2 ≤ sizeLine; decide, fun t ht => ⟨by show 2 ≤ sizeLine; decide, fun z hz => ?_⟩⟩
      have e1 := same_new (o := .tup [.int (i : Nat), .int (70 - 5 * (i : Nat))]) ht
      have e2 := same_new (o := .tup [.str "row", .ref t]) hz
      have e3 := e1.trans e2
      have hG9 := e3 _ _ hG
      have lu := hfs.len
      rw [List.length_take] at lu
      generalize hh : upd (upd G8 t (.tup [.int (i : Nat), .int (70 - 5 * (i : Nat))])) z (.tup [.str "row", .ref t]) = G9 at e3 hG9
      have hz9 : G9 z = some (.tup [.str "row", .ref t]) := by rw [← hh]; exact upd_same
      have ht9 : TI G9 t [(i : Int), 70 - 5 * (i : Int)] := by rw [← hh]; exact e2 _ _ upd_same
      have T : SameT G9 (upd G9 D0 (.lst (us ++ [.ref z]))) := fun b xs q => by
        rw [upd_ne (fun y => by rw [y, hG9] at q; cases q)]
        exact q
      refine ⟨us, hG9, small60 (by omega), same_wr (sm.trans e3) hD, us ++ [.ref z], upd_same, ?_⟩
      rw [take_snoc hsv]
      refine (FAs.keep T _ _ (FAs.keep (tups e3) _ _ hfs)).snoc (FA.keep T _ _ ?_)
      unfold sevenR
      simp only [FA]
      exact ⟨z, t, rfl, hz9, ht9⟩
    · rintro G7 ⟨sm, us, hG, hfs⟩
      rw [show sevens.take (7 : Int).toNat = sevens from rfl] at hfs
      exact ⟨D0, _, rfl, .inl ⟨SqL.of hG, fun t ht => k2 _ _ (sm.trans (same_new ht)) ⟨t, us, rfl, upd_same, FAs.keep (tups (same_new ht)) _ _ hfs⟩⟩⟩
  rintro v G7 g7 ⟨q7, vs7, rfl, hq7, hf7⟩
  have WW := WW.same g7
  obtain ⟨a0, a1, a2, a3, a4, a5, a6, rfl, b0, b1, b2, b3, b4, b5, b6⟩ : ∃ a0 a1 a2 a3 a4 a5 a6, vs7 = [a0, a1, a2, a3, a4, a5, a6] ∧ FA G7 (sevenR 0) a0 ∧ FA G7 (sevenR 1) a1 ∧ FA G7 (sevenR 2) a2 ∧ FA G7 (sevenR 3) a3 ∧ FA G7 (sevenR 4) a4 ∧ FA G7 (sevenR 5) a5 ∧ FA G7 (sevenR 6) a6 := by
    have e : sevens = [sevenR 0, sevenR 1, sevenR 2, sevenR 3, sevenR 4, sevenR 5, sevenR 6] := rfl
    rw [e] at hf7
    simp only [FAs] at hf7
    obtain ⟨a0, _, rfl, b0, a1, _, rfl, b1, a2, _, rfl, b2, a3, _, rfl, b3, a4, _, rfl, b4, a5, _, rfl, b5, a6, _, rfl, b6, rfl⟩ := hf7
    exact ⟨a0, a1, a2, a3, a4, a5, a6, rfl, b0, b1, b2, b3, b4, b5, b6⟩
  refine seq_asg (fun H v => FA H fSeven v) ?_ ?_
  · intro H2 Q2 t2 k2
    have hq := t2 _ _ hq7
    refine ⟨_, rfl, 4, rfl, q7, _, rfl, SqT.of hq, by show ¬ (HT.sIx 7 0 none = 0 ∧ HT.sIx 7 7 (some 4) = 7); decide, fun t1 ht1 => ⟨by show 2 ≤ sizeLine; decide, fun x2 ht2 => ⟨by show 1 ≤ sizeLine; decide, fun x3 ht3 => ?_⟩⟩⟩
    have e1 := same_new (o := .tup (cutV [a0, a1, a2, a3, a4, a5, a6] none (some 4))) ht1
    have e2 := same_new (o := .tup [.str "one", .ref t1]) ht2
    have e3 := same_new (o := .tup [.ref x2]) ht3
    have e13 := e1.trans (e2.trans e3)
    have c1 := (e2.trans e3) _ _ (show upd H2 t1 (.tup (cutV [a0, a1, a2, a3, a4, a5, a6] none (some 4))) t1 = some (.tup [a0, a1, a2, a3]) from upd_same)
    have c2 := e3 _ _ (show upd (upd H2 t1 (.tup (cutV [a0, a1, a2, a3, a4, a5, a6] none (some 4)))) x2 (.tup [.str "one", .ref t1]) x2 = some (.tup [.str "one", .ref t1]) from upd_same)
    refine ⟨_, rfl, 4, rfl, q7, _, rfl, SqT.of (e13 _ _ hq), by show ¬ (HT.sIx 7 0 (some 4) = 0 ∧ HT.sIx 7 7 none = 7); decide, fun x4 ht4 => ?_⟩
    have e4 := same_new (o := .tup (cutV [a0, a1, a2, a3, a4, a5, a6] (some 4) none)) ht4
    refine ⟨x3, x4, [.ref x2], [a4, a5, a6], rfl, rfl, SqT.of (e4 _ _ upd_same), SqT.of upd_same, by show 4 ≤ sizeLine; decide, fun z => (by cases z), fun _ z => (by cases z), fun _ _ x5 ht5 => ⟨by show 2 ≤ sizeLine; decide, fun x6 ht6 => ?_⟩⟩
    have e5 := same_new (o := .tup ([.ref x2] ++ [a4, a5, a6])) ht5
    have e6 := same_new (o := .tup [.str "one", .ref x5]) ht6
    have eA := e13.trans (e4.trans (e5.trans e6))
    have T := t2.trans (tups eA)
    refine k2 _ _ eA ?_
    unfold fSeven
    simp only [FA, FAs]
    exact ⟨x6, x5, _, rfl, upd_same, e6 _ _ upd_same, _, _, rfl, ⟨x2, t1, _, rfl, (e4.trans (e5.trans e6)) _ _ c2, (e4.trans (e5.trans e6)) _ _ c1, _, _, rfl, FA.keep T _ _ b0, _, _, rfl, FA.keep T _ _ b1, _, _, rfl, FA.keep T _ _ b2, _, _, rfl, FA.keep T _ _ b3, rfl⟩,
      _, _, rfl, FA.keep T _ _ b4, _, _, rfl, FA.keep T _ _ b5, _, _, rfl, FA.keep T _ _ b6, rfl⟩
  rintro v G8 g8 hv8
  have WW := WW.same g8
  refine seq_app (p := (.node .any [fSeven, fSeven], dueL)) rfl WW (by decide) ?_ ?_
  · refine mk_pair (mk_any (mk_fs (by decide) (mkA_fcons (mk_varF rfl hv8) (mkA_fcons (mk_varF rfl hv8) mkA_fnil)))) ?_
    intro H2 Q2 _ k2
    refine ⟨7, rfl, by decide, by decide, fun D0 hD => lc_it (walk_rng0 (n := (7 : Int).toNat)) (fun i G => Same H2 G ∧ ∃ cs : List Addr, G D0 = some (.lst (cs.map V.ref)) ∧ Rows G cs (dueL.take i)) ⟨same_new hD, [], upd_same, .nil⟩ (fun _ _ _ _ => trivial) ?_ ?_⟩
    · rintro i x G7 G8 hi ⟨sm, cs, hG, RC⟩ ⟨rfl, rfl⟩
      have hi7 : i < 7 := hi
      have hsv := due_at i hi7
      refine ⟨rfl, _, rfl, _, rfl, _, _, rfl, rfl, .inl ⟨by decide, by decide⟩, _, _, rfl, rfl, by show 2 ≤ sizeLine; decide, fun t ht => ?_⟩
      have e1 := same_new (o := .tup [.int (i : Nat), .int (70 - 5 * (i : Nat))]) ht
      have hG9 := e1 _ _ hG
      have lu := RC.len
      rw [List.length_take] at lu
      generalize hh : upd G8 t (.tup [.int (i : Nat), .int (70 - 5 * (i : Nat))]) = G9 at e1 hG9
      have ht9 : TI G9 t [(i : Int), 70 - 5 * (i : Int)] := by rw [← hh]; exact upd_same
      have T : SameT G9 (upd G9 D0 (.lst (cs.map V.ref ++ [.ref t]))) := fun b xs q => by
        rw [upd_ne (fun y => by rw [y, hG9] at q; cases q)]
        exact q
      refine ⟨_, hG9, by rw [List.length_map]; exact small60 (by omega), same_wr (sm.trans e1) hD, cs ++ [t], by rw [upd_same, List.map_append]; rfl, ?_⟩
      rw [take_snoc hsv]
      exact ((RC.keep (tups e1)).keep T).snoc (T _ _ ht9)
    · rintro G7 ⟨sm, cs, hG, RC⟩
      rw [show dueL.take (7 : Int).toNat = dueL from rfl] at RC
      exact ⟨D0, _, rfl, .inl ⟨SqL.of hG, fun t ht => k2 _ _ (sm.trans (same_new ht)) ⟨t, cs, rfl, upd_same, RC.keep (tups (same_new ht))⟩⟩⟩
  intro G9 WW t9
  obtain ⟨vs9, hrl9, hw9⟩ := WW.ex
  refine ⟨_, rfl, rl2, rfl, ⟨_, SqL.of hrl9⟩, fun D0 hD => lc_it (walk_list (xs := vs9)) (fun i G => Same G9 G ∧ G D0 = some (.lst [])) ⟨same_new hD, upd_same⟩ (fun i G _ h => SqL.of (h.1 _ _ hrl9)) ?_ ?_⟩
  · rintro i x G10 G11 hi ⟨sm, hG⟩ ⟨rfl, hx⟩
    obtain ⟨p, hp, q, fa, db, rfl, hq, hfa, hdb⟩ := hw9.get hx
    have pm : p ∈ written := List.mem_of_getElem? hp
    have wf := written_fine p pm
    have ws := written_shw p pm
    refine ⟨q, _, rfl, SqT.of (sm _ _ hq), rfl, _, _, rfl, _, _, rfl, rfl, rfl, ?_⟩
    refine ⟨by show 1 ≤ sizeLine; decide, fun t ht => ?_⟩
    have e1 := same_new (o := .tup [.int 2]) ht
    refine ⟨_, rfl, t, fa, [2], p.1, rfl, upd_same, ⟨by decide, by decide⟩, FA.keep (tups (sm.trans e1)) _ _ hfa, wf.1, fun H3 y s3 hy => ?_⟩
    rw [wf.2] at hy
    refine ⟨_, rfl, y, db, p.2, rfl, hy, hdb.keep (tups (sm.trans (e1.trans s3))), ws, true, rfl, iteF ⟨sm.trans (e1.trans s3), s3 _ _ (e1 _ _ hG)⟩⟩
  · rintro G10 ⟨sm, hG⟩
    refine ⟨by show 0 ≤ sizeLine; decide, fun e he => ?_⟩
    have s5 := same_new (o := .lst []) he
    exact eq_lst (ns := []) (ms := []) (s5 _ _ hG) upd_same (k _)
end
end SR

namespace SR
open PySem PySem.Spec PyProof.Rows L2 SY
/-! ### the top -/
theorem df_mk {K : PySem.W.Frag} {mg : Str → Option Value} {h : Heap} {x : Str} {st : Stmt} {ps : List Str} {f : Addr} {oc kV dc pm cd ct : Value} {od an : Option Addr} {sl : Array (Option Value)} (X : K.In h) (G : h.Ns mainGlobals mg)
    (b : ∀ (kV doc pm : Value) (an : Option Addr) (cdv ct : Value) (us : List Value), us.length = ps.length → bindArgs (PySem.W.fnOf x x (defArgs st) (defBody st) (defScope st) .none kV doc pm an cdv ct) ⟨us, []⟩ = pure (ps.zip us))
    (a : PySem.W.nsIn K mainGlobals x = some (some (.ref f))) (l : K.lookup f = some ⟨oc, od, .func (PySem.W.fnOf x x (defArgs st) (defBody st) (defScope st) .none kV dc pm an cd ct), sl⟩) (c : PySem.W.codeIn K cd x = true) (k : PySem.W.keepIn K (.ref f) = true) : Df K mg x st ps := by
  have F := fun_mk (st := st) l c k
  exact ⟨f, _, F, PySem.W.mg_of X G a, F.binds b⟩
theorem wr_mk {K : PySem.W.Frag} {mg : Str → Option Value} {h : Heap} {a : Addr} {dd : Option Addr} {t1 t2 t3 : Tok} {n : Nat} {sl : Array (Option Value)} (X : K.In h) (G : h.Ns mainGlobals mg) (e : PySem.W.nsIn K mainGlobals "WORDS" = some (some (.ref a)))
    (l : K.lookup a = some ⟨.type "tuple", dd, .seq #[.str "together" t1, .str "any" t2, .str "one" t3] n, sl⟩) : Wr K mg :=
  ⟨a, PySem.W.mg_of X G e, fun H => .inr ⟨_, _, _, l, rfl, rfl, by show 3 ≤ sizeLine; decide, .cons ⟨t1, rfl⟩ (.cons ⟨t2, rfl⟩ (.cons ⟨t3, rfl⟩ .nil))⟩⟩
structure Ds (K : PySem.W.Frag) (mg : Str → Option Value) : Prop where
  is_from : Df K mg "is_from" s_is_from ["value", "low", "high"]
  need_units : Df K mg "need_units" s_need_units ["value"]
  is_row : Df K mg "is_row" s_is_row ["units", "value"]
  need_row : Df K mg "need_row" s_need_row ["units", "value"]
  zeros_of : Df K mg "zeros_of" s_zeros_of ["units"]
  added : Df K mg "added" s_added ["one", "other"]
  less : Df K mg "less" s_less ["one", "other"]
  stair_from : Df K mg "stair_from" s_stair_from ["units", "row"]
  row_from : Df K mg "row_from" s_row_from ["units", "stair"]
  within : Df K mg "within" s_within ["units", "order", "stock"]
  higher_row : Df K mg "higher_row" s_higher_row ["units", "one", "other"]
  shape : Df K mg "has_formula_shape" s_has_formula_shape ["units", "value"]
  walked : Df K mg "formula_walked" s_formula_walked ["units", "value", "path", "met"]
  need_formula : Df K mg "need_formula" s_need_formula ["units", "value"]
  least_kept : Df K mg "least_kept" s_least_kept ["units", "rows"]
  two_put : Df K mg "two_put" s_two_put ["units", "word", "one", "other"]
  rows : Df K mg "formula_rows" s_formula_rows ["units", "formula"]
  stocks : Df K mg "formula_stocks" s_formula_stocks ["units", "formula"]
  enough : Df K mg "is_enough" s_is_enough ["units", "rows", "stock"]
  enough_for : Df K mg "is_enough_for" s_is_enough_for ["units", "formula", "stock"]
  mixed : Df K mg "_law_mixed" s_law_mixed ["_law_cell", "_law_k"]
  begin_ : Df K mg "_law_begin" s_law_begin ["_law_script"]
  draw : Df K mg "_law_draw" s_law_draw ["_law_state", "_law_limit"]
  units : Df K mg "_law_units" s_law_units ["_law_state"]
  sizes : Df K mg "_law_sizes" s_law_sizes ["_law_units_so"]
  total : Df K mg "_law_total" s_law_total ["_law_units_so", "_law_row_here"]
  row : Df K mg "_law_row" s_law_row ["_law_state", "_law_units_so", "_law_most"]
  without : Df K mg "_law_without" s_law_without ["_law_row_here", "_law_order"]
  cuts : Df K mg "_law_cuts" s_law_cuts ["_law_units_so", "_law_row_here"]
  fits : Df K mg "_law_fits" s_law_fits ["_law_units_so", "_law_order", "_law_stock"]
  parts : Df K mg "_law_parts" s_law_parts ["_law_row_here"]
  all_rows : Df K mg "_law_all_rows" s_law_all_rows ["_law_units_so", "_law_most"]
  has : Df K mg "_law_has" s_law_has ["_law_cut_rows", "_law_order"]
  law_is_row : Df K mg "_law_is_row" s_law_is_row ["_law_units_so", "_law_value", "_law_most"]
  formula : Df K mg "_law_formula" s_law_formula ["_law_state", "_law_units_so", "_law_deep", "_law_most"]
  listed : Df K mg "_law_listed" s_law_listed ["_law_formula_here", "_law_table"]
  suits : Df K mg "_law_suits" s_law_suits ["_law_units_so", "_law_table", "_law_index", "_law_row_here", "_law_seen"]
  parted : Df K mg "_law_parted" s_law_parted ["_law_units_so", "_law_table", "_law_what", "_law_row_here", "_law_seen"]
  like : Df K mg "_law_like" s_law_like ["_law_got", "_law_due"]
  least_ones : Df K mg "_law_least_ones" s_law_least_ones ["_law_units_so", "_law_rows"]
  right : Df K mg "_law_right" s_law_right ["_law_state"]
  law : Df K mg "law" s_law ["_law_script"]
theorem all_ok {P : Program} {w : World} {K : PySem.W.Frag} {mg : Str → Option Value} {base : Heap} (d : Ds K mg) (B : Bi mg) (C : Cn mg) (W : Wr K mg) {fa : Addr} {fd : FuncData} (F0 : Fun K "law" "law" s_law fa fd) : FnG P w K mg base 28 fa fd ["_law_script"] (spLaw K) := by
  have f1 := ok_is_from (P := P) (w := w) (base := base) d.is_from B
  have f2 := ok_need_units d.need_units B C f1
  have f3 := ok_is_row d.is_row B C f1
  have f4 := ok_need_row d.need_row f2 f3
  have f5 := ok_zeros (P := P) (w := w) (base := base) d.zeros_of B
  have f6 := ok_added (P := P) (w := w) (base := base) d.added B
  have f7 := ok_less (P := P) (w := w) (base := base) d.less B
  have f8 := ok_stair_from (P := P) (w := w) (base := base) d.stair_from B
  have f9 := ok_row_from (P := P) (w := w) (base := base) d.row_from B
  have f10 := ok_within d.within B f8 f7
  have f11 := ok_higher_row d.higher_row B f8 f9
  have f12 := ok_has_formula_shape d.shape B C W f3
  have f13 := ok_walk d.walked B C f12 6
  have f14 := ok_need_formula d.need_formula f2 f13
  have f15 := ok_least_kept d.least_kept B C f8 f9 f7
  have f16 := ok_two_put d.two_put B f15 f6 f11
  have f17 := ok_formula_rows d.rows B f16 f5 6
  have f18 := ok_formula_stocks d.stocks f14 f17
  have f19 := ok_is_enough d.enough f10
  have f20 := ok_is_enough_for d.enough_for f14 f4 f17 f19
  have l1 := ok_mixed (P := P) (w := w) (base := base) d.mixed B
  have l2 := ok_begin (P := P) (w := w) (base := base) d.begin_ B
  have l3 := ok_draw d.draw B l1
  have l4 := ok_units d.units B l3
  have l5 := ok_sizes (P := P) (w := w) (base := base) d.sizes
  have l6 := ok_total d.total B l5
  have l7 := ok_row d.row B l3 l5
  have l8 := ok_without (P := P) (w := w) (base := base) d.without B
  have l9 := ok_cuts (P := P) (w := w) (base := base) d.cuts B
  have l10 := ok_fits d.fits B l9 l8
  have l11 := ok_parts (P := P) (w := w) (base := base) d.parts B
  have l12 := ok_all_rows d.all_rows B l5
  have l13 := ok_has d.has B l8
  have l14 := ok_law_is_row d.law_is_row B l6
  have l15 := ok_formula d.formula B l3 l7 3
  have l16 := ok_listed (P := P) (w := w) (base := base) d.listed B 3
  have l17 := ok_suits d.suits d.parted B l10 l9 l11 l8 3
  have l18 := ok_likeB (P := P) (w := w) (base := base) d.like B
  have l19 := ok_least_ones d.least_ones B l14 l9 l13
  have l20 := ok_right d.right B l4 l15 f18 l19 l16 l12 l9 l17 l13 l18 f20
  have l21 := ok_likeD (P := P) (w := w) (base := base) d.like B
  exact ok_law F0 B l2 l20 f18 l21
theorem top_ok {P : Program} {w : World} {K : PySem.W.Frag} {mg : Str → Option Value} {fa : Addr} (d : Ds K mg) (B : Bi mg) (C : Cn mg) (W : Wr K mg) (hmg : mg "law" = some (.ref fa)) :
    ∃ fd : FuncData, (∀ (s : Shared) (u : Value), BindsTo s fd ⟨[u], []⟩ [("_law_script", u)]) ∧ ∀ base : Heap, K.In base → base.Ns mainGlobals mg → FnG P w K mg base 28 fa fd ["_law_script"] (spLaw K) := by
  obtain ⟨f, fd, F, hm, b⟩ := d.law.ex
  have e := hmg.symm.trans hm
  cases e
  refine ⟨fd, ?_, fun base _ _ => all_ok d B C W F⟩
  obtain ⟨oc, od, kV, doc, pm, an, cdv, ct, osl, rfl, lk, hcd⟩ := F.ex
  exact fun s v => .of_eq rfl
end SR

namespace SR
open PySem PySem.Spec PyProof.Rows L2 SY
theorem bi_mk {K : PySem.W.Frag} {mg : Str → Option Value} {h : Heap} (X : K.In h) (G : h.Ns mainGlobals mg) (z0 : PySem.W.nsIn K mainGlobals "isinstance" = some none) (z1 : PySem.W.nsIn K mainGlobals "len" = some none) (z2 : PySem.W.nsIn K mainGlobals "tuple" = some none) (z3 : PySem.W.nsIn K mainGlobals "zip" = some none) (z4 : PySem.W.nsIn K mainGlobals "enumerate" = some none) (z5 : PySem.W.nsIn K mainGlobals "min" = some none) (z6 : PySem.W.nsIn K mainGlobals "max" = some none) (z7 : PySem.W.nsIn K mainGlobals "sorted" = some none) (z8 : PySem.W.nsIn K mainGlobals "range" = some none) (z9 : PySem.W.nsIn K mainGlobals "sum" = some none) (z10 : PySem.W.nsIn K mainGlobals "list" = some none) (z11 : PySem.W.nsIn K mainGlobals "repr" = some none) (z12 : PySem.W.nsIn K mainGlobals "int" = some none) (z13 : PySem.W.nsIn K mainGlobals "bool" = some none) (z14 : PySem.W.nsIn K mainGlobals "str" = some none) : Bi mg := ⟨PySem.W.mg_none_of X G z0, PySem.W.mg_none_of X G z1, PySem.W.mg_none_of X G z2, PySem.W.mg_none_of X G z3, PySem.W.mg_none_of X G z4, PySem.W.mg_none_of X G z5, PySem.W.mg_none_of X G z6, PySem.W.mg_none_of X G z7, PySem.W.mg_none_of X G z8, PySem.W.mg_none_of X G z9, PySem.W.mg_none_of X G z10, PySem.W.mg_none_of X G z11, PySem.W.mg_none_of X G z12, PySem.W.mg_none_of X G z13, PySem.W.mg_none_of X G z14⟩
theorem cn_mk {K : PySem.W.Frag} {mg : Str → Option Value} {h : Heap} {t1 t2 t3 t4 t5 t6 t7 : Tok} (X : K.In h) (G : h.Ns mainGlobals mg) (c0 : PySem.W.nsIn K mainGlobals "MOST_UNITS" = some (some (.int 3 t1))) (c1 : PySem.W.nsIn K mainGlobals "MOST_RATIO" = some (some (.int 10 t2))) (c2 : PySem.W.nsIn K mainGlobals "MOST_PIECES" = some (some (.int (10 ^ 60) t3))) (c3 : PySem.W.nsIn K mainGlobals "MOST_DEEP" = some (some (.int 6 t4))) (c4 : PySem.W.nsIn K mainGlobals "MOST_PARTS" = some (some (.int 20 t5))) (c5 : PySem.W.nsIn K mainGlobals "MOST_BRANCHES" = some (some (.int 4 t6))) (c6 : PySem.W.nsIn K mainGlobals "MOST_LEAST" = some (some (.int 40 t7))) : Cn mg := ⟨⟨_, PySem.W.mg_of X G c0, ⟨t1, rfl⟩⟩, ⟨_, PySem.W.mg_of X G c1, ⟨t2, rfl⟩⟩, ⟨_, PySem.W.mg_of X G c2, ⟨t3, rfl⟩⟩, ⟨_, PySem.W.mg_of X G c3, ⟨t4, rfl⟩⟩, ⟨_, PySem.W.mg_of X G c4, ⟨t5, rfl⟩⟩, ⟨_, PySem.W.mg_of X G c5, ⟨t6, rfl⟩⟩, ⟨_, PySem.W.mg_of X G c6, ⟨t7, rfl⟩⟩⟩
end SR
open PySem PySem.W PyProof.Rows
set_option maxHeartbeats 0 in
theorem PySem.Challenge.cw_stairyard_k12_whole_least_rows_of_formul_holds : PySem.Challenge.rw_stairyard_k12_whole_least_rows_of_formul.Holds := by
  w_on; o_law; k_head; (case hw => w_witness2)
  k_fill
  refine SR.walk_ofG (l := PySem.Challenge.rw_stairyard_k12_whole_least_rows_of_formul) (n := 63) (k := 28) (x := "_law_script") (sp := fun w => SR.spLaw _) rfl (by decide) rfl ⟨rfl, by decide, by decide⟩ (fun w h Y => PySem.W.kIn_of Y) ?F (fun _ _ a ns hl _ _ hS => ⟨a, ns, rfl, hS, hl, fun _ => rfl⟩)
  case F =>
    intro w mg fa h KX G hmg
    refine' SR.top_ok ?D ?B ?C ?W hmg
    case B =>
      refine' SR.bi_mk KX G ?z0 ?z1 ?z2 ?z3 ?z4 ?z5 ?z6 ?z7 ?z8 ?z9 ?z10 ?z11 ?z12 ?z13 ?z14
      (case z0 => k_is)
      (case z1 => k_is)
      (case z2 => k_is)
      (case z3 => k_is)
      (case z4 => k_is)
      (case z5 => k_is)
      (case z6 => k_is)
      (case z7 => k_is)
      (case z8 => k_is)
      (case z9 => k_is)
      (case z10 => k_is)
      (case z11 => k_is)
      (case z12 => k_is)
      (case z13 => k_is)
      (case z14 => k_is)
    case C =>
      refine' SR.cn_mk KX G ?c0 ?c1 ?c2 ?c3 ?c4 ?c5 ?c6
      (case c0 => k_is)
      (case c1 => k_is)
      (case c2 => k_is)
      (case c3 => k_is)
      (case c4 => k_is)
      (case c5 => k_is)
      (case c6 => k_is)
    case W =>
      refine' SR.wr_mk KX G ?e ?l
      (case e => k_is)
      (case l => k_is)
    case D =>
      constructor
      case is_from =>
        refine' SR.df_mk KX G (fun _ _ _ _ _ _ us hl => match us, hl with | [_, _, _], _ => rfl) ?a ?l ?c ?k
        (case a => k_is)
        (case l => k_is)
        (case c => k_is)
        (case k => k_is)
      case need_units =>
        refine' SR.df_mk KX G (fun _ _ _ _ _ _ us hl => match us, hl with | [_], _ => rfl) ?a ?l ?c ?k
        (case a => k_is)
        (case l => k_is)
        (case c => k_is)
        (case k => k_is)
      case is_row =>
        refine' SR.df_mk KX G (fun _ _ _ _ _ _ us hl => match us, hl with | [_, _], _ => rfl) ?a ?l ?c ?k
        (case a => k_is)
        (case l => k_is)
        (case c => k_is)
        (case k => k_is)
      case need_row =>
        refine' SR.df_mk KX G (fun _ _ _ _ _ _ us hl => match us, hl with | [_, _], _ => rfl) ?a ?l ?c ?k
        (case a => k_is)
        (case l => k_is)
        (case c => k_is)
        (case k => k_is)
      case zeros_of =>
        refine' SR.df_mk KX G (fun _ _ _ _ _ _ us hl => match us, hl with | [_], _ => rfl) ?a ?l ?c ?k
        (case a => k_is)
        (case l => k_is)
        (case c => k_is)
        (case k => k_is)
      case added =>
        refine' SR.df_mk KX G (fun _ _ _ _ _ _ us hl => match us, hl with | [_, _], _ => rfl) ?a ?l ?c ?k
        (case a => k_is)
        (case l => k_is)
        (case c => k_is)
        (case k => k_is)
      case less =>
        refine' SR.df_mk KX G (fun _ _ _ _ _ _ us hl => match us, hl with | [_, _], _ => rfl) ?a ?l ?c ?k
        (case a => k_is)
        (case l => k_is)
        (case c => k_is)
        (case k => k_is)
      case stair_from =>
        refine' SR.df_mk KX G (fun _ _ _ _ _ _ us hl => match us, hl with | [_, _], _ => rfl) ?a ?l ?c ?k
        (case a => k_is)
        (case l => k_is)
        (case c => k_is)
        (case k => k_is)
      case row_from =>
        refine' SR.df_mk KX G (fun _ _ _ _ _ _ us hl => match us, hl with | [_, _], _ => rfl) ?a ?l ?c ?k
        (case a => k_is)
        (case l => k_is)
        (case c => k_is)
        (case k => k_is)
      case within =>
        refine' SR.df_mk KX G (fun _ _ _ _ _ _ us hl => match us, hl with | [_, _, _], _ => rfl) ?a ?l ?c ?k
        (case a => k_is)
        (case l => k_is)
        (case c => k_is)
        (case k => k_is)
      case higher_row =>
        refine' SR.df_mk KX G (fun _ _ _ _ _ _ us hl => match us, hl with | [_, _, _], _ => rfl) ?a ?l ?c ?k
        (case a => k_is)
        (case l => k_is)
        (case c => k_is)
        (case k => k_is)
      case shape =>
        refine' SR.df_mk KX G (fun _ _ _ _ _ _ us hl => match us, hl with | [_, _], _ => rfl) ?a ?l ?c ?k
        (case a => k_is)
        (case l => k_is)
        (case c => k_is)
        (case k => k_is)
      case walked =>
        refine' SR.df_mk KX G (fun _ _ _ _ _ _ us hl => match us, hl with | [_, _, _, _], _ => rfl) ?a ?l ?c ?k
        (case a => k_is)
        (case l => k_is)
        (case c => k_is)
        (case k => k_is)
      case need_formula =>
        refine' SR.df_mk KX G (fun _ _ _ _ _ _ us hl => match us, hl with | [_, _], _ => rfl) ?a ?l ?c ?k
        (case a => k_is)
        (case l => k_is)
        (case c => k_is)
        (case k => k_is)
      case least_kept =>
        refine' SR.df_mk KX G (fun _ _ _ _ _ _ us hl => match us, hl with | [_, _], _ => rfl) ?a ?l ?c ?k
        (case a => k_is)
        (case l => k_is)
        (case c => k_is)
        (case k => k_is)
      case two_put =>
        refine' SR.df_mk KX G (fun _ _ _ _ _ _ us hl => match us, hl with | [_, _, _, _], _ => rfl) ?a ?l ?c ?k
        (case a => k_is)
        (case l => k_is)
        (case c => k_is)
        (case k => k_is)
      case rows =>
        refine' SR.df_mk KX G (fun _ _ _ _ _ _ us hl => match us, hl with | [_, _], _ => rfl) ?a ?l ?c ?k
        (case a => k_is)
        (case l => k_is)
        (case c => k_is)
        (case k => k_is)
      case stocks =>
        refine' SR.df_mk KX G (fun _ _ _ _ _ _ us hl => match us, hl with | [_, _], _ => rfl) ?a ?l ?c ?k
        (case a => k_is)
        (case l => k_is)
        (case c => k_is)
        (case k => k_is)
      case enough =>
        refine' SR.df_mk KX G (fun _ _ _ _ _ _ us hl => match us, hl with | [_, _, _], _ => rfl) ?a ?l ?c ?k
        (case a => k_is)
        (case l => k_is)
        (case c => k_is)
        (case k => k_is)
      case enough_for =>
        refine' SR.df_mk KX G (fun _ _ _ _ _ _ us hl => match us, hl with | [_, _, _], _ => rfl) ?a ?l ?c ?k
        (case a => k_is)
        (case l => k_is)
        (case c => k_is)
        (case k => k_is)
      case mixed =>
        refine' SR.df_mk KX G (fun _ _ _ _ _ _ us hl => match us, hl with | [_, _], _ => rfl) ?a ?l ?c ?k
        (case a => k_is)
        (case l => k_is)
        (case c => k_is)
        (case k => k_is)
      case begin_ =>
        refine' SR.df_mk KX G (fun _ _ _ _ _ _ us hl => match us, hl with | [_], _ => rfl) ?a ?l ?c ?k
        (case a => k_is)
        (case l => k_is)
        (case c => k_is)
        (case k => k_is)
      case draw =>
        refine' SR.df_mk KX G (fun _ _ _ _ _ _ us hl => match us, hl with | [_, _], _ => rfl) ?a ?l ?c ?k
        (case a => k_is)
        (case l => k_is)
        (case c => k_is)
        (case k => k_is)
      case units =>
        refine' SR.df_mk KX G (fun _ _ _ _ _ _ us hl => match us, hl with | [_], _ => rfl) ?a ?l ?c ?k
        (case a => k_is)
        (case l => k_is)
        (case c => k_is)
        (case k => k_is)
      case sizes =>
        refine' SR.df_mk KX G (fun _ _ _ _ _ _ us hl => match us, hl with | [_], _ => rfl) ?a ?l ?c ?k
        (case a => k_is)
        (case l => k_is)
        (case c => k_is)
        (case k => k_is)
      case total =>
        refine' SR.df_mk KX G (fun _ _ _ _ _ _ us hl => match us, hl with | [_, _], _ => rfl) ?a ?l ?c ?k
        (case a => k_is)
        (case l => k_is)
        (case c => k_is)
        (case k => k_is)
      case row =>
        refine' SR.df_mk KX G (fun _ _ _ _ _ _ us hl => match us, hl with | [_, _, _], _ => rfl) ?a ?l ?c ?k
        (case a => k_is)
        (case l => k_is)
        (case c => k_is)
        (case k => k_is)
      case without =>
        refine' SR.df_mk KX G (fun _ _ _ _ _ _ us hl => match us, hl with | [_, _], _ => rfl) ?a ?l ?c ?k
        (case a => k_is)
        (case l => k_is)
        (case c => k_is)
        (case k => k_is)
      case cuts =>
        refine' SR.df_mk KX G (fun _ _ _ _ _ _ us hl => match us, hl with | [_, _], _ => rfl) ?a ?l ?c ?k
        (case a => k_is)
        (case l => k_is)
        (case c => k_is)
        (case k => k_is)
      case fits =>
        refine' SR.df_mk KX G (fun _ _ _ _ _ _ us hl => match us, hl with | [_, _, _], _ => rfl) ?a ?l ?c ?k
        (case a => k_is)
        (case l => k_is)
        (case c => k_is)
        (case k => k_is)
      case parts =>
        refine' SR.df_mk KX G (fun _ _ _ _ _ _ us hl => match us, hl with | [_], _ => rfl) ?a ?l ?c ?k
        (case a => k_is)
        (case l => k_is)
        (case c => k_is)
        (case k => k_is)
      case all_rows =>
        refine' SR.df_mk KX G (fun _ _ _ _ _ _ us hl => match us, hl with | [_, _], _ => rfl) ?a ?l ?c ?k
        (case a => k_is)
        (case l => k_is)
        (case c => k_is)
        (case k => k_is)
      case has =>
        refine' SR.df_mk KX G (fun _ _ _ _ _ _ us hl => match us, hl with | [_, _], _ => rfl) ?a ?l ?c ?k
        (case a => k_is)
        (case l => k_is)
        (case c => k_is)
        (case k => k_is)
      case law_is_row =>
        refine' SR.df_mk KX G (fun _ _ _ _ _ _ us hl => match us, hl with | [_, _, _], _ => rfl) ?a ?l ?c ?k
        (case a => k_is)
        (case l => k_is)
        (case c => k_is)
        (case k => k_is)
      case formula =>
        refine' SR.df_mk KX G (fun _ _ _ _ _ _ us hl => match us, hl with | [_, _, _, _], _ => rfl) ?a ?l ?c ?k
        (case a => k_is)
        (case l => k_is)
        (case c => k_is)
        (case k => k_is)
      case listed =>
        refine' SR.df_mk KX G (fun _ _ _ _ _ _ us hl => match us, hl with | [_, _], _ => rfl) ?a ?l ?c ?k
        (case a => k_is)
        (case l => k_is)
        (case c => k_is)
        (case k => k_is)
      case suits =>
        refine' SR.df_mk KX G (fun _ _ _ _ _ _ us hl => match us, hl with | [_, _, _, _, _], _ => rfl) ?a ?l ?c ?k
        (case a => k_is)
        (case l => k_is)
        (case c => k_is)
        (case k => k_is)
      case parted =>
        refine' SR.df_mk KX G (fun _ _ _ _ _ _ us hl => match us, hl with | [_, _, _, _, _], _ => rfl) ?a ?l ?c ?k
        (case a => k_is)
        (case l => k_is)
        (case c => k_is)
        (case k => k_is)
      case like =>
        refine' SR.df_mk KX G (fun _ _ _ _ _ _ us hl => match us, hl with | [_, _], _ => rfl) ?a ?l ?c ?k
        (case a => k_is)
        (case l => k_is)
        (case c => k_is)
        (case k => k_is)
      case least_ones =>
        refine' SR.df_mk KX G (fun _ _ _ _ _ _ us hl => match us, hl with | [_, _], _ => rfl) ?a ?l ?c ?k
        (case a => k_is)
        (case l => k_is)
        (case c => k_is)
        (case k => k_is)
      case right =>
        refine' SR.df_mk KX G (fun _ _ _ _ _ _ us hl => match us, hl with | [_], _ => rfl) ?a ?l ?c ?k
        (case a => k_is)
        (case l => k_is)
        (case c => k_is)
        (case k => k_is)
      case law =>
        refine' SR.df_mk KX G (fun _ _ _ _ _ _ us hl => match us, hl with | [_], _ => rfl) ?a ?l ?c ?k
        (case a => k_is)
        (case l => k_is)
        (case c => k_is)
        (case k => k_is)
