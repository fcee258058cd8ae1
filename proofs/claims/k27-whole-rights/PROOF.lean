import PyProof.Rows.All
import Wide.All
import OpenK.AllK
import Wide.FinOn
import HandS.ForMost
import HandS.TupAny
import HandS.TupMul
import HandS.Walk
import HandS.IsInst
import HandS.SortInts
import HandS.Evl
import HandS.Zip
import KE.DataMinMax
import KE.KDictPairs
import KE.SortData
import HandS.Strs
import KE.KDictList
import KE.GoesZip
import KE.KDictZip
import KE.GoesEnum
import PySem.Challenge.RW_blindtill_k27_whole_rights_behind_safe_p
import HandS.More
import Wide.Txt2
import HandS.Wide
import HandS.Ends
section
set_option linter.all false
set_option autoImplicit false
namespace K27
/-! Rights as trees; what may be called for; the law of shape; safe payings. Core Lean alone. -/
inductive Rt (N : Type) where
  | none
  | call (nm : N) (most times : Int)
  | within (most : Int) (r : Rt N)
  | calls (many : Int) (r : Rt N)
  | all (rs : List (Rt N))
  | one (rs : List (Rt N))

def cut (m : Int) : Option Int → Int
  | .none => m
  | .some b => min m (b - 1)

def maxTo (f : Nat → Int) : Nat → Int
  | 0 => f 0
  | n + 1 => max (maxTo f n) (f (n + 1))
def conv (f g : Nat → Int) (j : Nat) : Int := maxTo (fun i => f i + g (j - i)) j

section
variable {N : Type}
mutual
def rw : Rt N → Option Int → Nat → Int
  | .none, _, _ => 0
  | .call _ m t, b, j => min t (j : Int) * cut m b
  | .within m r, b, j => min m (rw r b j)
  | .calls k r, b, j => rw r b (min j k.toNat)
  | .all rs, b, j => rwAll rs b (fun _ => 0) j
  | .one rs, b, j => rwOne rs b (fun _ => 0) j
def rwAll : List (Rt N) → Option Int → (Nat → Int) → Nat → Int
  | [], _, acc, j => acc j
  | r :: rs, b, acc, j => rwAll rs b (conv acc (fun i => rw r b i)) j
def rwOne : List (Rt N) → Option Int → (Nat → Int) → Nat → Int
  | [], _, acc, j => acc j
  | r :: rs, b, acc, j => rwOne rs b (fun i => max (acc i) (rw r b i)) j
end

mutual
def len : Rt N → Int
  | .none => 0
  | .call _ _ t => t
  | .within m r => min m (len r)
  | .calls k r => min k (len r)
  | .all rs => lenSum rs
  | .one rs => lenMax rs
def lenSum : List (Rt N) → Int
  | [] => 0
  | r :: rs => len r + lenSum rs
def lenMax : List (Rt N) → Int
  | [] => 0
  | r :: rs => max (len r) (lenMax rs)
end

mutual
def top : Rt N → Option Int → Int
  | .none, _ => 0
  | .call _ m t, b => t * cut m b
  | .within m r, b => min m (top r b)
  | .calls k r, b => rw r b (min k (len r)).toNat
  | .all rs, b => topSum rs b
  | .one rs, b => topMax rs b
def topSum : List (Rt N) → Option Int → Int
  | [], _ => 0
  | r :: rs, b => top r b + topSum rs b
def topMax : List (Rt N) → Option Int → Int
  | [], _ => 0
  | r :: rs, b => max (top r b) (topMax rs b)
end

/-! numbers from 1 on -/
mutual
def ok : Rt N → Prop
  | .none => True
  | .call _ m t => 1 ≤ m ∧ 1 ≤ t
  | .within m r => 1 ≤ m ∧ ok r
  | .calls k r => 1 ≤ k ∧ ok r
  | .all rs => okAll rs
  | .one rs => okAll rs
def okAll : List (Rt N) → Prop
  | [] => True
  | r :: rs => ok r ∧ okAll rs
end

mutual
def behind [DecidableEq N] : Rt N → N → Int → Option (Rt N)
  | .none, _, _ => .none
  | .call x m t, nm, a => if x ≠ nm ∨ a > m then .none else if t > 1 then .some (.call nm m (t - 1)) else .some .none
  | .within m r, nm, a => match behind r nm a with
    | .none => .none
    | .some i => if m - a < 0 then .none else if m - a = 0 then .some .none else .some (.within (m - a) i)
  | .calls k r, nm, a => match behind r nm a with
    | .none => .none
    | .some i => if k - 1 < 0 then .none else if k - 1 = 0 then .some .none else .some (.calls (k - 1) i)
  | .all rs, nm, a => match behindAll rs nm a with
    | .none => .none
    | .some rs' => .some (.all rs')
  | .one rs, nm, a => behindOne rs nm a
def behindAll [DecidableEq N] : List (Rt N) → N → Int → Option (List (Rt N))
  | [], _, _ => .none
  | r :: rs, nm, a => match behind r nm a with
    | .some i => .some (i :: rs)
    | .none => match behindAll rs nm a with
      | .some rs' => .some (r :: rs')
      | .none => .none
def behindOne [DecidableEq N] : List (Rt N) → N → Int → Option (Rt N)
  | [], _, _ => .none
  | r :: rs, nm, a => match behind r nm a with
    | .some i => .some i
    | .none => behindOne rs nm a
end
end

/-! ### maxTo, conv -/
theorem maxTo_ge {f : Nat → Int} : ∀ {n i : Nat}, i ≤ n → f i ≤ maxTo f n
  | 0, i, h => by
    have e : i = 0 := by omega
    subst e
    exact Int.le_refl _
  | n + 1, i, h => by
    show f i ≤ max (maxTo f n) (f (n + 1))
    by_cases e : i = n + 1
    · subst e
      omega
    · have := maxTo_ge (f := f) (n := n) (i := i) (by omega)
      omega
theorem maxTo_mem {f : Nat → Int} : ∀ n : Nat, ∃ i, i ≤ n ∧ maxTo f n = f i
  | 0 => ⟨0, Nat.le_refl _, rfl⟩
  | n + 1 => by
    obtain ⟨i, hi, e⟩ := maxTo_mem (f := f) n
    show ∃ i, i ≤ n + 1 ∧ max (maxTo f n) (f (n + 1)) = f i
    by_cases h : maxTo f n ≤ f (n + 1)
    · exact ⟨n + 1, Nat.le_refl _, by omega⟩
    · exact ⟨i, by omega, by omega⟩
theorem maxTo_le {f : Nat → Int} {n : Nat} {B : Int} (h : ∀ i, i ≤ n → f i ≤ B) : maxTo f n ≤ B := by
  obtain ⟨i, hi, e⟩ := maxTo_mem (f := f) n
  rw [e]
  exact h i hi
theorem conv_ge {f g : Nat → Int} {j i : Nat} (h : i ≤ j) : f i + g (j - i) ≤ conv f g j := maxTo_ge (f := fun i => f i + g (j - i)) h
theorem conv_le {f g : Nat → Int} {j : Nat} {B : Int} (h : ∀ i, i ≤ j → f i + g (j - i) ≤ B) : conv f g j ≤ B := maxTo_le h
/-- from 0 on, rising -/
structure Up (f : Nat → Int) : Prop where
  nn : ∀ i, 0 ≤ f i
  up : ∀ i j, i ≤ j → f i ≤ f j
theorem Up.zero : Up fun _ => 0 := ⟨fun _ => Int.le_refl _, fun _ _ _ => Int.le_refl _⟩
theorem Up.conv {f g : Nat → Int} (hf : Up f) (hg : Up g) : Up (conv f g) := by
  constructor
  · intro i
    have h := conv_ge (f := f) (g := g) (j := i) (i := 0) (Nat.zero_le _)
    have := hf.nn 0
    have := hg.nn (i - 0)
    omega
  · intro i j h
    refine conv_le fun k hk => ?_
    have h1 := conv_ge (f := f) (g := g) (j := j) (i := k) (by omega)
    have h2 := hg.up (i - k) (j - k) (by omega)
    omega
theorem Up.max {f g : Nat → Int} (hf : Up f) (hg : Up g) : Up (fun i => max (f i) (g i)) :=
  ⟨fun i => by have := hf.nn i; omega, fun i j h => by have := hf.up i j h; have := hg.up i j h; omega⟩

theorem cut_nn {m : Int} {b : Option Int} (hm : 0 ≤ m) (hb : ∀ x, b = some x → 1 ≤ x) : 0 ≤ cut m b := by
  cases b with
  | none => exact hm
  | some x =>
    have := hb x rfl
    show 0 ≤ min m (x - 1)
    omega
section
variable {N : Type}
/-- what stands below -/
def Bd (b : Option Int) : Prop := ∀ x, b = some x → 1 ≤ x
theorem mul_min_up {t c : Int} (hc : 0 ≤ c) {i j : Nat} (h : i ≤ j) : min t (i : Int) * c ≤ min t (j : Int) * c := Int.mul_le_mul_of_nonneg_right (by omega) hc
mutual
theorem rw_up {b : Option Int} (hb : Bd b) : ∀ r : Rt N, ok r → Up (fun j => rw r b j)
  | .none, _ => by
    refine ⟨fun i => ?_, fun i j _ => ?_⟩ <;> simp only [rw] <;> omega
  | .call x m t, h => by
    simp only [ok] at h
    have hc : 0 ≤ cut m b := cut_nn (by omega) hb
    refine ⟨fun i => ?_, fun i j hij => ?_⟩ <;> simp only [rw]
    · exact Int.mul_nonneg (by omega) hc
    · exact mul_min_up hc hij
  | .within m r, h => by
    simp only [ok] at h
    have u := rw_up hb r h.2
    refine ⟨fun i => ?_, fun i j hij => ?_⟩ <;> simp only [rw]
    · have := u.nn i
      omega
    · have := u.up i j hij
      omega
  | .calls k r, h => by
    simp only [ok] at h
    have u := rw_up hb r h.2
    refine ⟨fun i => ?_, fun i j hij => ?_⟩ <;> simp only [rw]
    · exact u.nn _
    · exact u.up _ _ (by omega)
  | .all rs, h => by
    simp only [ok] at h
    have u := rwAll_up hb rs h (acc := fun _ => 0) Up.zero
    refine ⟨fun i => ?_, fun i j hij => ?_⟩ <;> simp only [rw]
    · exact u.nn _
    · exact u.up _ _ hij
  | .one rs, h => by
    simp only [ok] at h
    have u := rwOne_up hb rs h (acc := fun _ => 0) Up.zero
    refine ⟨fun i => ?_, fun i j hij => ?_⟩ <;> simp only [rw]
    · exact u.nn _
    · exact u.up _ _ hij
theorem rwAll_up {b : Option Int} (hb : Bd b) : ∀ (rs : List (Rt N)), okAll rs → ∀ {acc : Nat → Int}, Up acc → Up (fun j => rwAll rs b acc j)
  | [], _, acc, ha => by
    refine ⟨fun i => ?_, fun i j hij => ?_⟩ <;> simp only [rwAll]
    · exact ha.nn _
    · exact ha.up _ _ hij
  | r :: rs, h, acc, ha => by
    simp only [okAll] at h
    have u := rwAll_up hb rs h.2 (ha.conv (rw_up hb r h.1))
    refine ⟨fun i => ?_, fun i j hij => ?_⟩ <;> simp only [rwAll]
    · exact u.nn _
    · exact u.up _ _ hij
theorem rwOne_up {b : Option Int} (hb : Bd b) : ∀ (rs : List (Rt N)), okAll rs → ∀ {acc : Nat → Int}, Up acc → Up (fun j => rwOne rs b acc j)
  | [], _, acc, ha => by
    refine ⟨fun i => ?_, fun i j hij => ?_⟩ <;> simp only [rwOne]
    · exact ha.nn _
    · exact ha.up _ _ hij
  | r :: rs, h, acc, ha => by
    simp only [okAll] at h
    have u := rwOne_up hb rs h.2 (ha.max (rw_up hb r h.1))
    refine ⟨fun i => ?_, fun i j hij => ?_⟩ <;> simp only [rwOne]
    · exact u.nn _
    · exact u.up _ _ hij
end

mutual
theorem len_nn : ∀ r : Rt N, ok r → 0 ≤ len r
  | .none, _ => by simp only [len]; omega
  | .call _ _ t, h => by simp only [ok] at h; simp only [len]; omega
  | .within m r, h => by
    simp only [ok] at h
    have := len_nn r h.2
    simp only [len]
    omega
  | .calls k r, h => by
    simp only [ok] at h
    have := len_nn r h.2
    simp only [len]
    omega
  | .all rs, h => by
    simp only [ok] at h
    simp only [len]
    exact lenSum_nn rs h
  | .one rs, h => by
    simp only [len]
    exact lenMax_nn rs
theorem lenSum_nn : ∀ rs : List (Rt N), okAll rs → 0 ≤ lenSum rs
  | [], _ => by simp only [lenSum]; omega
  | r :: rs, h => by
    simp only [okAll] at h
    have := len_nn r h.1
    have := lenSum_nn rs h.2
    simp only [lenSum]
    omega
theorem lenMax_nn : ∀ rs : List (Rt N), 0 ≤ lenMax rs
  | [] => by simp only [lenMax]; omega
  | r :: rs => by
    have := lenMax_nn rs
    simp only [lenMax]
    omega
end
mutual
theorem top_nn {b : Option Int} (hb : Bd b) : ∀ r : Rt N, ok r → 0 ≤ top r b
  | .none, _ => by simp only [top]; omega
  | .call _ m t, h => by
    simp only [ok] at h
    simp only [top]
    exact Int.mul_nonneg (by omega) (cut_nn (by omega) hb)
  | .within m r, h => by
    simp only [ok] at h
    have := top_nn hb r h.2
    simp only [top]
    omega
  | .calls k r, h => by
    simp only [ok] at h
    simp only [top]
    exact (rw_up hb r h.2).nn _
  | .all rs, h => by
    simp only [ok] at h
    simp only [top]
    exact topSum_nn hb rs h
  | .one rs, h => by
    simp only [top]
    exact topMax_nn rs
theorem topSum_nn {b : Option Int} (hb : Bd b) : ∀ rs : List (Rt N), okAll rs → 0 ≤ topSum rs b
  | [], _ => by simp only [topSum]; omega
  | r :: rs, h => by
    simp only [okAll] at h
    have := top_nn hb r h.1
    have := topSum_nn hb rs h.2
    simp only [topSum]
    omega
theorem topMax_nn {b : Option Int} : ∀ rs : List (Rt N), 0 ≤ topMax rs b
  | [] => by simp only [topMax]; omega
  | r :: rs => by
    have := topMax_nn (b := b) rs
    simp only [topMax]
    omega
end
end

/-! ### a call made: what is behind it -/
def cutA (a : Int) (b : Option Int) : Int := cut a b
theorem conv_shift_l {f f' g : Nat → Int} {c : Int} (h : ∀ n, c + f' n ≤ f (n + 1)) (n : Nat) : c + conv f' g n ≤ conv f g (n + 1) := by
  obtain ⟨i, hi, e⟩ := maxTo_mem (f := fun i => f' i + g (n - i)) n
  have e' : conv f' g n = f' i + g (n - i) := e
  have h1 := conv_ge (f := f) (g := g) (j := n + 1) (i := i + 1) (by omega)
  have h2 := h i
  rw [show n + 1 - (i + 1) = n - i by omega] at h1
  omega
theorem conv_shift_r {f g g' : Nat → Int} {c : Int} (h : ∀ n, c + g' n ≤ g (n + 1)) (n : Nat) : c + conv f g' n ≤ conv f g (n + 1) := by
  obtain ⟨i, hi, e⟩ := maxTo_mem (f := fun i => f i + g' (n - i)) n
  have e' : conv f g' n = f i + g' (n - i) := e
  have h1 := conv_ge (f := f) (g := g) (j := n + 1) (i := i) (by omega)
  have h2 := h (n - i)
  rw [show n + 1 - i = n - i + 1 by omega] at h1
  omega
section
variable {N : Type}
theorem rwAll_shift {b : Option Int} {c : Int} : ∀ (rs : List (Rt N)) {f f' : Nat → Int}, (∀ n, c + f' n ≤ f (n + 1)) → ∀ n, c + rwAll rs b f' n ≤ rwAll rs b f (n + 1)
  | [], f, f', h, n => by
    simp only [rwAll]
    exact h n
  | r :: rs, f, f', h, n => by
    simp only [rwAll]
    exact rwAll_shift rs (conv_shift_l h) n
theorem rwOne_ge {b : Option Int} : ∀ (rs : List (Rt N)) {acc : Nat → Int} {n : Nat}, acc n ≤ rwOne rs b acc n
  | [], acc, n => by
    simp only [rwOne]
    exact Int.le_refl _
  | r :: rs, acc, n => by
    have h := rwOne_ge (b := b) rs (acc := fun i => max (acc i) (rw r b i)) (n := n)
    simp only [rwOne]
    omega
variable [DecidableEq N]
mutual
theorem behind_ok {nm : N} {a : Int} : ∀ (r r' : Rt N), ok r → behind r nm a = some r' → ok r'
  | .none, r', _, h => by simp [behind] at h
  | .call x m t, r', h, e => by
    simp only [ok] at h
    simp only [behind] at e
    split at e
    · cases e
    · split at e <;> cases e <;> simp only [ok]
      omega
  | .within m r, r', h, e => by
    simp only [ok] at h
    simp only [behind] at e
    split at e
    · cases e
    · rename_i i hi
      have q := behind_ok r i h.2 hi
      split at e
      · cases e
      · split at e <;> cases e <;> simp only [ok]
        exact ⟨by omega, q⟩
  | .calls k r, r', h, e => by
    simp only [ok] at h
    simp only [behind] at e
    split at e
    · cases e
    · rename_i i hi
      have q := behind_ok r i h.2 hi
      split at e
      · cases e
      · split at e <;> cases e <;> simp only [ok]
        exact ⟨by omega, q⟩
  | .all rs, r', h, e => by
    simp only [ok] at h
    simp only [behind] at e
    split at e
    · cases e
    · rename_i i hi
      cases e
      simp only [ok]
      exact behindAll_ok rs i h hi
  | .one rs, r', h, e => by
    simp only [ok] at h
    simp only [behind] at e
    exact behindOne_ok rs r' h e
theorem behindAll_ok {nm : N} {a : Int} : ∀ (rs rs' : List (Rt N)), okAll rs → behindAll rs nm a = some rs' → okAll rs'
  | [], rs', _, h => by simp [behindAll] at h
  | r :: rs, rs', h, e => by
    simp only [okAll] at h
    simp only [behindAll] at e
    split at e
    · rename_i i hi
      cases e
      simp only [okAll]
      exact ⟨behind_ok r i h.1 hi, h.2⟩
    · split at e
      · rename_i i hi
        cases e
        simp only [okAll]
        exact ⟨h.1, behindAll_ok rs i h.2 hi⟩
      · cases e
theorem behindOne_ok {nm : N} {a : Int} : ∀ (rs : List (Rt N)) (r' : Rt N), okAll rs → behindOne rs nm a = some r' → ok r'
  | [], rs', _, h => by simp [behindOne] at h
  | r :: rs, rs', h, e => by
    simp only [okAll] at h
    simp only [behindOne] at e
    split at e
    · rename_i i hi
      cases e
      exact behind_ok r _ h.1 hi
    · exact behindOne_ok rs rs' h.2 e
end

theorem lenMax_ge : ∀ (rs : List (Rt N)), 0 ≤ lenMax rs := lenMax_nn
mutual
theorem behind_len {nm : N} {a : Int} (ha : 1 ≤ a) : ∀ (r r' : Rt N), ok r → behind r nm a = some r' → len r' + 1 ≤ len r
  | .none, r', _, h => by simp [behind] at h
  | .call x m t, r', h, e => by
    simp only [ok] at h
    simp only [behind] at e
    split at e
    · cases e
    · split at e <;> cases e <;> simp only [len] <;> omega
  | .within m r, r', h, e => by
    simp only [ok] at h
    simp only [behind] at e
    split at e
    · cases e
    · rename_i i hi
      have q := behind_len ha r i h.2 hi
      have q0 := len_nn i (behind_ok r i h.2 hi)
      split at e
      · cases e
      · split at e <;> cases e <;> simp only [len] <;> omega
  | .calls k r, r', h, e => by
    simp only [ok] at h
    simp only [behind] at e
    split at e
    · cases e
    · rename_i i hi
      have q := behind_len ha r i h.2 hi
      have q0 := len_nn i (behind_ok r i h.2 hi)
      split at e
      · cases e
      · split at e <;> cases e <;> simp only [len] <;> omega
  | .all rs, r', h, e => by
    simp only [ok] at h
    simp only [behind] at e
    split at e
    · cases e
    · rename_i i hi
      cases e
      simp only [len]
      exact behindAll_len ha rs i h hi
  | .one rs, r', h, e => by
    simp only [ok] at h
    simp only [behind] at e
    simp only [len]
    exact behindOne_len ha rs r' h e
theorem behindAll_len {nm : N} {a : Int} (ha : 1 ≤ a) : ∀ (rs rs' : List (Rt N)), okAll rs → behindAll rs nm a = some rs' → lenSum rs' + 1 ≤ lenSum rs
  | [], rs', _, h => by simp [behindAll] at h
  | r :: rs, rs', h, e => by
    simp only [okAll] at h
    simp only [behindAll] at e
    split at e
    · rename_i i hi
      cases e
      have := behind_len ha r i h.1 hi
      simp only [lenSum]
      omega
    · split at e
      · rename_i i hi
        cases e
        have := behindAll_len ha rs i h.2 hi
        simp only [lenSum]
        omega
      · cases e
theorem behindOne_len {nm : N} {a : Int} (ha : 1 ≤ a) : ∀ (rs : List (Rt N)) (r' : Rt N), okAll rs → behindOne rs nm a = some r' → len r' + 1 ≤ lenMax rs
  | [], rs', _, h => by simp [behindOne] at h
  | r :: rs, rs', h, e => by
    simp only [okAll] at h
    simp only [behindOne] at e
    simp only [lenMax]
    split at e
    · rename_i i hi
      cases e
      have := behind_len ha r _ h.1 hi
      omega
    · have := behindOne_len ha rs rs' h.2 e
      omega
end

theorem cut_le {a m : Int} (h : a ≤ m) (b : Option Int) : cut a b ≤ cut m b := by
  cases b with
  | none => exact h
  | some x =>
    show min a (x - 1) ≤ min m (x - 1)
    omega
theorem cut_le_self {a : Int} (b : Option Int) : cut a b ≤ a := by
  cases b with
  | none => exact Int.le_refl _
  | some x =>
    show min a (x - 1) ≤ a
    omega
mutual
theorem behind_rw {b : Option Int} (hb : Bd b) {nm : N} {a : Int} (ha : 1 ≤ a) : ∀ (r r' : Rt N), ok r → behind r nm a = some r' → ∀ n, cut a b + rw r' b n ≤ rw r b (n + 1)
  | .none, r', _, h, _ => by simp [behind] at h
  | .call x m t, r', h, e, n => by
    simp only [ok] at h
    simp only [behind] at e
    split at e
    · cases e
    · rename_i hx
      have h1 : cut a b ≤ cut m b := cut_le (by omega) b
      have h0 : 0 ≤ cut m b := cut_nn (by omega) hb
      split at e <;> cases e <;> simp only [rw]
      · by_cases hn : t - 1 ≤ (n : Int)
        · rw [show min (t - 1) (n : Int) = t - 1 by omega, show min t ((n + 1 : Nat) : Int) = t by omega, Int.sub_mul]
          omega
        · rw [show min (t - 1) (n : Int) = (n : Int) by omega, show min t ((n + 1 : Nat) : Int) = (n : Int) + 1 by omega, Int.add_mul]
          omega
      · rw [show min t ((n + 1 : Nat) : Int) = 1 by omega]
        omega
  | .within m r, r', h, e, n => by
    simp only [ok] at h
    simp only [behind] at e
    split at e
    · cases e
    · rename_i i hi
      have q := behind_rw hb ha r i h.2 hi n
      have q0 := (rw_up hb i (behind_ok r i h.2 hi)).nn n
      have c0 := cut_le_self (a := a) b
      split at e
      · cases e
      · split at e <;> cases e <;> simp only [rw] <;> omega
  | .calls k r, r', h, e, n => by
    simp only [ok] at h
    simp only [behind] at e
    split at e
    · cases e
    · rename_i i hi
      split at e
      · cases e
      · split at e <;> cases e <;> simp only [rw]
        · have q := behind_rw hb ha r i h.2 hi 0
          rw [Nat.zero_add] at q
          have q0 := (rw_up hb i (behind_ok r i h.2 hi)).nn 0
          have q1 := (rw_up hb r h.2).up 1 (min (n + 1) k.toNat) (by omega)
          try simp only at q0 q1
          omega
        · have q := behind_rw hb ha r i h.2 hi (min n (k - 1).toNat)
          rw [show min n (k - 1).toNat + 1 = min (n + 1) k.toNat by omega] at q
          exact q
  | .all rs, r', h, e, n => by
    simp only [ok] at h
    simp only [behind] at e
    split at e
    · cases e
    · rename_i i hi
      cases e
      simp only [rw]
      exact behindAll_rw hb ha rs i h hi n
  | .one rs, r', h, e, n => by
    simp only [ok] at h
    simp only [behind] at e
    simp only [rw]
    exact behindOne_rw hb ha rs r' h e n
theorem behindAll_rw {b : Option Int} (hb : Bd b) {nm : N} {a : Int} (ha : 1 ≤ a) : ∀ (rs rs' : List (Rt N)), okAll rs → behindAll rs nm a = some rs' → ∀ {acc : Nat → Int}, ∀ n, cut a b + rwAll rs' b acc n ≤ rwAll rs b acc (n + 1)
  | [], rs', _, h, _, _ => by simp [behindAll] at h
  | r :: rs, rs', h, e, acc, n => by
    simp only [okAll] at h
    simp only [behindAll] at e
    split at e
    · rename_i i hi
      cases e
      have := behind_rw hb ha r i h.1 hi
      simp only [rwAll]
      exact rwAll_shift rs (conv_shift_r this) n
    · split at e
      · rename_i i hi
        cases e
        simp only [rwAll]
        exact behindAll_rw hb ha rs i h.2 hi n
      · cases e
theorem behindOne_rw {b : Option Int} (hb : Bd b) {nm : N} {a : Int} (ha : 1 ≤ a) : ∀ (rs : List (Rt N)) (r' : Rt N), okAll rs → behindOne rs nm a = some r' → ∀ {acc : Nat → Int}, ∀ n, cut a b + rw r' b n ≤ rwOne rs b acc (n + 1)
  | [], rs', _, h, _, _ => by simp [behindOne] at h
  | r :: rs, rs', h, e, acc, n => by
    simp only [okAll] at h
    simp only [behindOne] at e
    simp only [rwOne]
    split at e
    · rename_i i hi
      cases e
      have q1 := behind_rw hb ha r _ h.1 hi n
      have q2 := rwOne_ge (b := b) rs (acc := fun i => max (acc i) (rw r b i)) (n := n + 1)
      try simp only at q2
      omega
    · exact behindOne_rw hb ha rs rs' h.2 e n
end
mutual
theorem behind_top {b : Option Int} (hb : Bd b) {nm : N} {a : Int} (ha : 1 ≤ a) : ∀ (r r' : Rt N), ok r → behind r nm a = some r' → cut a b + top r' b ≤ top r b
  | .none, r', _, h => by simp [behind] at h
  | .call x m t, r', h, e => by
    simp only [ok] at h
    simp only [behind] at e
    split at e
    · cases e
    · rename_i hx
      have h1 : cut a b ≤ cut m b := cut_le (by omega) b
      have h0 : 0 ≤ cut m b := cut_nn (by omega) hb
      split at e <;> cases e <;> simp only [top]
      · rw [Int.sub_mul]
        omega
      · rw [show t = 1 by omega]
        omega
  | .within m r, r', h, e => by
    simp only [ok] at h
    simp only [behind] at e
    split at e
    · cases e
    · rename_i i hi
      have q := behind_top hb ha r i h.2 hi
      have q0 := top_nn hb i (behind_ok r i h.2 hi)
      have c0 := cut_le_self (a := a) b
      split at e
      · cases e
      · split at e <;> cases e <;> simp only [top] <;> omega
  | .calls k r, r', h, e => by
    simp only [ok] at h
    simp only [behind] at e
    split at e
    · cases e
    · rename_i i hi
      have l1 := behind_len ha r i h.2 hi
      have l0 := len_nn i (behind_ok r i h.2 hi)
      split at e
      · cases e
      · split at e <;> cases e <;> simp only [top]
        · have q := behind_rw hb ha r i h.2 hi 0
          rw [Nat.zero_add] at q
          have q0 := (rw_up hb i (behind_ok r i h.2 hi)).nn 0
          have q1 := (rw_up hb r h.2).up 1 (min k (len r)).toNat (by omega)
          try simp only at q0 q1
          omega
        · have q := behind_rw hb ha r i h.2 hi (min (k - 1) (len i)).toNat
          have q1 := (rw_up hb r h.2).up ((min (k - 1) (len i)).toNat + 1) (min k (len r)).toNat (by omega)
          try simp only at q1
          omega
  | .all rs, r', h, e => by
    simp only [ok] at h
    simp only [behind] at e
    split at e
    · cases e
    · rename_i i hi
      cases e
      simp only [top]
      exact behindAll_top hb ha rs i h hi
  | .one rs, r', h, e => by
    simp only [ok] at h
    simp only [behind] at e
    simp only [top]
    exact behindOne_top hb ha rs r' h e
theorem behindAll_top {b : Option Int} (hb : Bd b) {nm : N} {a : Int} (ha : 1 ≤ a) : ∀ (rs rs' : List (Rt N)), okAll rs → behindAll rs nm a = some rs' → cut a b + topSum rs' b ≤ topSum rs b
  | [], rs', _, h => by simp [behindAll] at h
  | r :: rs, rs', h, e => by
    simp only [okAll] at h
    simp only [behindAll] at e
    split at e
    · rename_i i hi
      cases e
      have := behind_top hb ha r i h.1 hi
      simp only [topSum]
      omega
    · split at e
      · rename_i i hi
        cases e
        have := behindAll_top hb ha rs i h.2 hi
        simp only [topSum]
        omega
      · cases e
theorem behindOne_top {b : Option Int} (hb : Bd b) {nm : N} {a : Int} (ha : 1 ≤ a) : ∀ (rs : List (Rt N)) (r' : Rt N), okAll rs → behindOne rs nm a = some r' → cut a b + top r' b ≤ topMax rs b
  | [], rs', _, h => by simp [behindOne] at h
  | r :: rs, rs', h, e => by
    simp only [okAll] at h
    simp only [behindOne] at e
    simp only [topMax]
    split at e
    · rename_i i hi
      cases e
      have := behind_top hb ha r _ h.1 hi
      omega
    · have := behindOne_top hb ha rs rs' h.2 e
      omega
end
end

/-! ### monotone in the bound -/
def LeB (w c : Option Int) : Prop := ∀ m : Int, cut m w ≤ cut m c
theorem leB_some {w c : Int} (h : w ≤ c) : LeB (some w) (some c) := fun m => by
  show min m (w - 1) ≤ min m (c - 1)
  omega
theorem leB_none (w : Int) : LeB (some w) .none := fun m => by
  show min m (w - 1) ≤ m
  omega
theorem conv_mono {f g f' g' : Nat → Int} (h1 : ∀ i, f i ≤ f' i) (h2 : ∀ i, g i ≤ g' i) (j : Nat) : conv f g j ≤ conv f' g' j := conv_le fun i hi => by
  have h := conv_ge (f := f') (g := g') hi
  have := h1 i
  have := h2 (j - i)
  omega
section
variable {N : Type}
mutual
theorem rw_mono {w c : Option Int} (h : LeB w c) : ∀ r : Rt N, ok r → ∀ n, rw r w n ≤ rw r c n
  | .none, _, n => by simp only [rw]; omega
  | .call _ m t, hr, n => by
    simp only [ok] at hr
    simp only [rw]
    exact Int.mul_le_mul_of_nonneg_left (h m) (by omega)
  | .within m r, hr, n => by
    simp only [ok] at hr
    have := rw_mono h r hr.2 n
    simp only [rw]
    omega
  | .calls k r, hr, n => by
    simp only [ok] at hr
    simp only [rw]
    exact rw_mono h r hr.2 _
  | .all rs, hr, n => by
    simp only [ok] at hr
    simp only [rw]
    exact rwAll_mono h rs hr (fun _ => Int.le_refl _) n
  | .one rs, hr, n => by
    simp only [ok] at hr
    simp only [rw]
    exact rwOne_mono h rs hr (fun _ => Int.le_refl _) n
theorem rwAll_mono {w c : Option Int} (h : LeB w c) : ∀ rs : List (Rt N), okAll rs → ∀ {f g : Nat → Int}, (∀ i, f i ≤ g i) → ∀ n, rwAll rs w f n ≤ rwAll rs c g n
  | [], _, f, g, hf, n => by simp only [rwAll]; exact hf n
  | r :: rs, hr, f, g, hf, n => by
    simp only [okAll] at hr
    simp only [rwAll]
    exact rwAll_mono h rs hr.2 (conv_mono hf (rw_mono h r hr.1)) n
theorem rwOne_mono {w c : Option Int} (h : LeB w c) : ∀ rs : List (Rt N), okAll rs → ∀ {f g : Nat → Int}, (∀ i, f i ≤ g i) → ∀ n, rwOne rs w f n ≤ rwOne rs c g n
  | [], _, f, g, hf, n => by simp only [rwOne]; exact hf n
  | r :: rs, hr, f, g, hf, n => by
    simp only [okAll] at hr
    simp only [rwOne]
    exact rwOne_mono h rs hr.2 (fun i => by have := hf i; have := rw_mono h r hr.1 i; omega) n
end
mutual
theorem top_mono {w c : Option Int} (h : LeB w c) : ∀ r : Rt N, ok r → top r w ≤ top r c
  | .none, _ => by simp only [top]; omega
  | .call _ m t, hr => by
    simp only [ok] at hr
    simp only [top]
    exact Int.mul_le_mul_of_nonneg_left (h m) (by omega)
  | .within m r, hr => by
    simp only [ok] at hr
    have := top_mono h r hr.2
    simp only [top]
    omega
  | .calls k r, hr => by
    simp only [ok] at hr
    simp only [top]
    exact rw_mono h r hr.2 _
  | .all rs, hr => by
    simp only [ok] at hr
    simp only [top]
    exact topSum_mono h rs hr
  | .one rs, hr => by
    simp only [ok] at hr
    simp only [top]
    exact topMax_mono h rs hr
theorem topSum_mono {w c : Option Int} (h : LeB w c) : ∀ rs : List (Rt N), okAll rs → topSum rs w ≤ topSum rs c
  | [], _ => by simp only [topSum]; omega
  | r :: rs, hr => by
    simp only [okAll] at hr
    have := top_mono h r hr.1
    have := topSum_mono h rs hr.2
    simp only [topSum]
    omega
theorem topMax_mono {w c : Option Int} (h : LeB w c) : ∀ rs : List (Rt N), okAll rs → topMax rs w ≤ topMax rs c
  | [], _ => by simp only [topMax]; omega
  | r :: rs, hr => by
    simp only [okAll] at hr
    have := top_mono h r hr.1
    have := topMax_mono h rs hr.2
    simp only [topMax]
    omega
end
end

/-! ### the law of shape -/
/-- the greatest sum of calls up to e whose cuts to d come to A -/
def sh (d e A : Int) : Int := A + (e - d) * (A / d)
theorem sh_up {d e A B : Int} (hd : 1 ≤ d) (he : d ≤ e) (h : A ≤ B) : sh d e A ≤ sh d e B := by
  have h1 : A / d ≤ B / d := Int.ediv_le_ediv (by omega) h
  have h2 := Int.mul_le_mul_of_nonneg_left h1 (show 0 ≤ e - d by omega)
  unfold sh
  omega
theorem sh_ge {d e A : Int} (hd : 1 ≤ d) (he : d ≤ e) (h : 0 ≤ A) : A ≤ sh d e A := by
  have h1 : 0 ≤ A / d := Int.ediv_nonneg h (by omega)
  have h2 := Int.mul_nonneg (show 0 ≤ e - d by omega) h1
  unfold sh
  omega
theorem sh_add {d e A B : Int} (hd : 1 ≤ d) (he : d ≤ e) : sh d e A + sh d e B ≤ sh d e (A + B) := by
  have a1 := Int.emod_nonneg A (show d ≠ 0 by omega)
  have a2 := Int.emod_nonneg B (show d ≠ 0 by omega)
  have e1 := Int.mul_ediv_add_emod A d
  have e2 := Int.mul_ediv_add_emod B d
  have h1 : A / d + B / d ≤ (A + B) / d := by
    rw [Int.le_ediv_iff_mul_le (by omega), Int.add_mul, Int.mul_comm (A / d), Int.mul_comm (B / d)]
    omega
  have h2 := Int.mul_le_mul_of_nonneg_left h1 (show 0 ≤ e - d by omega)
  rw [Int.mul_add] at h2
  unfold sh
  omega
theorem sh_call {d e m t : Int} (hd : 1 ≤ d) (he : d ≤ e) (hm : 0 ≤ m) (ht : 0 ≤ t) : t * min m e ≤ sh d e (t * min m d) := by
  by_cases h : m ≤ d
  · rw [show min m e = m by omega, show min m d = m by omega]
    exact sh_ge hd he (Int.mul_nonneg ht hm)
  · rw [show min m d = d by omega]
    unfold sh
    rw [Int.mul_ediv_cancel _ (by omega), Int.sub_mul, Int.mul_comm e t, Int.mul_comm d t]
    have := Int.mul_le_mul_of_nonneg_left (show min m e ≤ e by omega) ht
    omega
theorem conv_sh {d e : Int} (hd : 1 ≤ d) (he : d ≤ e) {f g f' g' : Nat → Int} (h1 : ∀ i, f i ≤ sh d e (f' i)) (h2 : ∀ i, g i ≤ sh d e (g' i)) (j : Nat) : conv f g j ≤ sh d e (conv f' g' j) := conv_le fun i hi => by
  have a := h1 i
  have b := h2 (j - i)
  have c := sh_add (A := f' i) (B := g' (j - i)) hd he
  have u := sh_up hd he (conv_ge (f := f') (g := g') hi)
  omega
section
variable {N : Type}
mutual
theorem rw_sh {w c : Int} (hw : 2 ≤ w) (hc : w ≤ c) : ∀ r : Rt N, ok r → ∀ n, rw r (some c) n ≤ sh (w - 1) (c - 1) (rw r (some w) n)
  | .none, _, n => by
    simp only [rw]
    exact sh_ge (by omega) (by omega) (Int.le_refl _)
  | .call _ m t, hr, n => by
    simp only [ok] at hr
    simp only [rw, cut]
    exact sh_call (by omega) (by omega) (by omega) (by omega)
  | .within m r, hr, n => by
    simp only [ok] at hr
    have h := rw_sh hw hc r hr.2 n
    simp only [rw]
    by_cases hl : rw r (some w) n ≤ m
    · rw [show min m (rw r (some w) n) = rw r (some w) n by omega]
      omega
    · rw [show min m (rw r (some w) n) = m by omega]
      have := sh_ge (d := w - 1) (e := c - 1) (A := m) (by omega) (by omega) (by omega)
      omega
  | .calls k r, hr, n => by
    simp only [ok] at hr
    simp only [rw]
    exact rw_sh hw hc r hr.2 _
  | .all rs, hr, n => by
    simp only [ok] at hr
    simp only [rw]
    exact rwAll_sh hw hc rs hr (fun _ => sh_ge (by omega) (by omega) (Int.le_refl _)) n
  | .one rs, hr, n => by
    simp only [ok] at hr
    simp only [rw]
    exact rwOne_sh hw hc rs hr (fun _ => sh_ge (by omega) (by omega) (Int.le_refl _)) n
theorem rwAll_sh {w c : Int} (hw : 2 ≤ w) (hc : w ≤ c) : ∀ rs : List (Rt N), okAll rs → ∀ {f g : Nat → Int}, (∀ i, f i ≤ sh (w - 1) (c - 1) (g i)) → ∀ n, rwAll rs (some c) f n ≤ sh (w - 1) (c - 1) (rwAll rs (some w) g n)
  | [], _, f, g, hf, n => by simp only [rwAll]; exact hf n
  | r :: rs, hr, f, g, hf, n => by
    simp only [okAll] at hr
    simp only [rwAll]
    exact rwAll_sh hw hc rs hr.2 (conv_sh (by omega) (by omega) hf (rw_sh hw hc r hr.1)) n
theorem rwOne_sh {w c : Int} (hw : 2 ≤ w) (hc : w ≤ c) : ∀ rs : List (Rt N), okAll rs → ∀ {f g : Nat → Int}, (∀ i, f i ≤ sh (w - 1) (c - 1) (g i)) → ∀ n, rwOne rs (some c) f n ≤ sh (w - 1) (c - 1) (rwOne rs (some w) g n)
  | [], _, f, g, hf, n => by simp only [rwOne]; exact hf n
  | r :: rs, hr, f, g, hf, n => by
    simp only [okAll] at hr
    simp only [rwOne]
    refine rwOne_sh hw hc rs hr.2 (fun i => ?_) n
    have h1 := hf i
    have h2 := rw_sh hw hc r hr.1 i
    have u1 := sh_up (d := w - 1) (e := c - 1) (A := g i) (B := max (g i) (rw r (some w) i)) (by omega) (by omega) (by omega)
    have u2 := sh_up (d := w - 1) (e := c - 1) (A := rw r (some w) i) (B := max (g i) (rw r (some w) i)) (by omega) (by omega) (by omega)
    omega
end
mutual
theorem top_sh {w c : Int} (hw : 2 ≤ w) (hc : w ≤ c) : ∀ r : Rt N, ok r → top r (some c) ≤ sh (w - 1) (c - 1) (top r (some w))
  | .none, _ => by
    simp only [top]
    exact sh_ge (by omega) (by omega) (Int.le_refl _)
  | .call _ m t, hr => by
    simp only [ok] at hr
    simp only [top, cut]
    exact sh_call (by omega) (by omega) (by omega) (by omega)
  | .within m r, hr => by
    simp only [ok] at hr
    have h := top_sh hw hc r hr.2
    simp only [top]
    by_cases hl : top r (some w) ≤ m
    · rw [show min m (top r (some w)) = top r (some w) by omega]
      omega
    · rw [show min m (top r (some w)) = m by omega]
      have := sh_ge (d := w - 1) (e := c - 1) (A := m) (by omega) (by omega) (by omega)
      omega
  | .calls k r, hr => by
    simp only [ok] at hr
    simp only [top]
    exact rw_sh hw hc r hr.2 _
  | .all rs, hr => by
    simp only [ok] at hr
    simp only [top]
    exact topSum_sh hw hc rs hr
  | .one rs, hr => by
    simp only [ok] at hr
    simp only [top]
    exact topMax_sh hw hc rs hr
theorem topSum_sh {w c : Int} (hw : 2 ≤ w) (hc : w ≤ c) : ∀ rs : List (Rt N), okAll rs → topSum rs (some c) ≤ sh (w - 1) (c - 1) (topSum rs (some w))
  | [], _ => by
    simp only [topSum]
    exact sh_ge (by omega) (by omega) (Int.le_refl _)
  | r :: rs, hr => by
    simp only [okAll] at hr
    have h1 := top_sh hw hc r hr.1
    have h2 := topSum_sh hw hc rs hr.2
    have h3 := sh_add (d := w - 1) (e := c - 1) (A := top r (some w)) (B := topSum rs (some w)) (by omega) (by omega)
    simp only [topSum]
    omega
theorem topMax_sh {w c : Int} (hw : 2 ≤ w) (hc : w ≤ c) : ∀ rs : List (Rt N), okAll rs → topMax rs (some c) ≤ sh (w - 1) (c - 1) (topMax rs (some w))
  | [], _ => by
    simp only [topMax]
    exact sh_ge (by omega) (by omega) (Int.le_refl _)
  | r :: rs, hr => by
    simp only [okAll] at hr
    have h1 := top_sh hw hc r hr.1
    have h2 := topMax_sh hw hc rs hr.2
    have u1 := sh_up (d := w - 1) (e := c - 1) (A := top r (some w)) (B := max (top r (some w)) (topMax rs (some w))) (by omega) (by omega) (by omega)
    have u2 := sh_up (d := w - 1) (e := c - 1) (A := topMax rs (some w)) (B := max (top r (some w)) (topMax rs (some w))) (by omega) (by omega) (by omega)
    simp only [topMax]
    omega
end
end

/-! ### piles -/
abbrev Pile := List (Int × Int)
def sumOf : Pile → Int
  | [] => 0
  | (w, m) :: p => w * m + sumOf p
def lessOf : Pile → Int → Int
  | [], _ => 0
  | (w, m) :: p, c => if w < c then w * m + lessOf p c else lessOf p c
def leftBeside (p : Pile) (a : Int) : List (Int × Int) := (p.filter fun x => decide (x.1 > 1)).map fun x => (x.1, lessOf p x.1 - min a (x.1 - 1))
def listBound (below worth there : Int) : Int := if worth ≥ below then there else (below - 1) * (there / (worth - 1)) + there % (worth - 1)
def minL : Int → List Int → Int
  | m, [] => m
  | m, x :: r => minL (min m x) r
def listSum (p : Pile) (a below : Int) : Option Int :=
  if sumOf p - a < 0 ∨ ((leftBeside p a).filter fun x => decide (x.2 < 0)).length > 0 then none
  else if below = 1 then some 0 else some (minL (sumOf p - a) ((leftBeside p a).map fun x => listBound below x.1 x.2))
theorem minL_le : ∀ (l : List Int) (m : Int), minL m l ≤ m ∧ ∀ x ∈ l, minL m l ≤ x
  | [], m => ⟨Int.le_refl _, fun x h => nomatch h⟩
  | y :: r, m => by
    obtain ⟨h1, h2⟩ := minL_le r (min m y)
    refine ⟨by show minL (min m y) r ≤ m; omega, fun x hx => ?_⟩
    show minL (min m y) r ≤ x
    rcases List.mem_cons.mp hx with e | hx
    · subst e
      omega
    · exact h2 x hx
theorem le_minL {B : Int} : ∀ (l : List Int) (m : Int), B ≤ m → (∀ x ∈ l, B ≤ x) → B ≤ minL m l
  | [], m, h, _ => h
  | y :: r, m, h, h2 => le_minL r (min m y) (by have := h2 y (List.mem_cons_self ..); omega) fun x hx => h2 x (List.mem_cons_of_mem _ hx)
theorem minL_mem : ∀ (l : List Int) (m : Int), minL m l ∈ m :: l
  | [], m => List.mem_cons_self ..
  | y :: r, m => by
    have h := minL_mem r (min m y)
    show minL (min m y) r ∈ m :: y :: r
    rcases List.mem_cons.mp h with e | h
    · rw [e]
      by_cases q : m ≤ y
      · rw [show min m y = m by omega]
        exact List.mem_cons_self ..
      · rw [show min m y = y by omega]
        exact List.mem_cons_of_mem _ (List.mem_cons_self ..)
    · exact List.mem_cons_of_mem _ (List.mem_cons_of_mem _ h)

theorem listBound_sh {c w t : Int} (h : w < c) : listBound c w t = sh (w - 1) (c - 1) t := by
  unfold listBound sh
  rw [if_neg (by omega), Int.sub_mul (c - 1)]
  have := Int.mul_ediv_add_emod t (w - 1)
  omega

section
variable {N : Type}
def holds (p : Pile) (r : Rt N) : Bool := (p.all fun x => !(decide (x.1 > 1) && decide (top r (some x.1) > lessOf p x.1))) && decide (top r .none ≤ sumOf p)
theorem holds_iff {p : Pile} {r : Rt N} : holds p r = true ↔ (∀ x ∈ p, x.1 > 1 → top r (some x.1) ≤ lessOf p x.1) ∧ top r .none ≤ sumOf p := by
  unfold holds
  rw [Bool.and_eq_true, List.all_eq_true, decide_eq_true_eq]
  refine and_congr ⟨fun h x hx h1 => ?_, fun h x hx => ?_⟩ Iff.rfl
  · have q := h x hx
    simp only [Bool.not_eq_true', Bool.and_eq_false_iff, decide_eq_false_iff_not] at q
    omega
  · simp only [Bool.not_eq_true', Bool.and_eq_false_iff, decide_eq_false_iff_not]
    by_cases h1 : x.1 > 1
    · have := h x hx h1
      omega
    · exact .inl h1

theorem mem_leftBeside {p : Pile} {a : Int} {x : Int × Int} (h : x ∈ leftBeside p a) : ∃ m, (x.1, m) ∈ p ∧ x.1 > 1 ∧ x.2 = lessOf p x.1 - min a (x.1 - 1) := by
  unfold leftBeside at h
  obtain ⟨y, hy, rfl⟩ := List.mem_map.mp h
  obtain ⟨h1, h2⟩ := List.mem_filter.mp hy
  exact ⟨y.2, h1, of_decide_eq_true h2, rfl⟩
theorem leftBeside_mem {p : Pile} {a w m : Int} (h : (w, m) ∈ p) (hw : w > 1) : (w, lessOf p w - min a (w - 1)) ∈ leftBeside p a :=
  List.mem_map.mpr ⟨(w, m), List.mem_filter.mpr ⟨h, decide_eq_true hw⟩, rfl⟩

/-! ### a safe paying leaves enough -/
theorem safe_one [DecidableEq N] {p : Pile} {r l : Rt N} {nm : N} {a c : Int} (hr : ok r) (ha : 1 ≤ a) (hb : behind r nm a = some l) (hs : holds p r = true) (hc : 2 ≤ c) : ∃ due, listSum p a c = some due ∧ top l (some c) ≤ due := by
  obtain ⟨h1, h2⟩ := holds_iff.mp hs
  have hl := behind_ok r l hr hb
  have t0 := behind_top (b := .none) (fun x e => nomatch e) ha r l hr hb
  have t0' : a + top l .none ≤ top r .none := t0
  have hover : 0 ≤ sumOf p - a := by
    have := top_nn (b := .none) (fun x e => nomatch e) l hl
    omega
  have hth : ∀ x ∈ leftBeside p a, top l (some x.1) ≤ x.2 ∧ x.1 > 1 := fun x hx => by
    obtain ⟨m, hm, hw, e⟩ := mem_leftBeside hx
    have q := h1 _ hm hw
    have t := behind_top (b := some x.1) (fun y e => by cases e; omega) ha r l hr hb
    have t' : min a (x.1 - 1) + top l (some x.1) ≤ top r (some x.1) := t
    have q' : top r (some x.1) ≤ lessOf p x.1 := q
    omega
  have hnn : ((leftBeside p a).filter fun x => decide (x.2 < 0)) = [] := by
    rw [List.filter_eq_nil_iff]
    intro x hx
    obtain ⟨q, q1⟩ := hth x hx
    have := top_nn (b := some x.1) (fun y e => by cases e; omega) l hl
    simp only [decide_eq_true_eq]
    omega
  refine ⟨minL (sumOf p - a) ((leftBeside p a).map fun x => listBound c x.1 x.2), ?_, le_minL _ _ ?_ fun y hy => ?_⟩
  · unfold listSum
    rw [if_neg, if_neg (by omega)]
    rw [hnn]
    simp
    omega
  · have := top_mono (leB_none c) l hl
    omega
  · obtain ⟨x, hx, rfl⟩ := List.mem_map.mp hy
    obtain ⟨q, q1⟩ := hth x hx
    by_cases h : x.1 < c
    · rw [listBound_sh h]
      have u := top_sh (w := x.1) (c := c) (by omega) (by omega) l hl
      have v := sh_up (d := x.1 - 1) (e := c - 1) (by omega) (by omega) q
      omega
    · unfold listBound
      rw [if_pos (by omega)]
      have := top_mono (leB_some (w := c) (c := x.1) (by omega)) l hl
      omega
def unsafeAt (p : Pile) (a : Int) (left : Pile) : List (Int × Int) := left.filterMap fun (x : Int × Int) =>
  if x.1 > 1 then match listSum p a x.1 with
    | none => none
    | some due => if lessOf left x.1 < due then some (x.1, due) else none
  else none
theorem safe_holds [DecidableEq N] {p left : Pile} {r l : Rt N} {nm : N} {a : Int} (hr : ok r) (ha : 1 ≤ a) (hb : behind r nm a = some l) (hs : holds p r = true) (hl : sumOf left = sumOf p - a) (hu : unsafeAt p a left = []) : holds left l = true := by
  refine holds_iff.mpr ⟨fun x hx hw => ?_, ?_⟩
  · obtain ⟨due, h1, h2⟩ := safe_one (c := x.1) hr ha hb hs (by omega)
    have q : (if x.1 > 1 then match listSum p a x.1 with
      | none => none
      | some due => if lessOf left x.1 < due then some (x.1, due) else none
      else none : Option (Int × Int)) = none := List.filterMap_eq_nil_iff.mp hu x hx
    rw [if_pos hw, h1] at q
    simp only at q
    split at q
    · cases q
    · omega
  · have t0 := behind_top (b := .none) (fun x e => nomatch e) ha r l hr hb
    have t0' : a + top l .none ≤ top r .none := t0
    have := (holds_iff.mp hs).2
    omega

/-! ### the telling right -/
def evens (c due : Int) : List (Int × Int) := (if due / (c - 1) > 0 then [(c - 1, due / (c - 1))] else []) ++ (if due % (c - 1) > 0 then [(due % (c - 1), 1)] else [])
def evCalls : List N → List (Int × Int) → List (Rt N)
  | n :: ns, x :: xs => .call n x.1 x.2 :: evCalls ns xs
  | _, _ => []
def told (na nb nc : N) (a c due : Int) : Rt N := .all (.call na a 1 :: evCalls [nb, nc] (evens c due))
def evTop (xs : List (Int × Int)) (b : Option Int) : Int := match xs with
  | [] => 0
  | x :: r => x.2 * cut x.1 b + evTop r b
theorem evCalls_top {b : Option Int} : ∀ (ns : List N) (xs : List (Int × Int)), xs.length ≤ ns.length → topSum (evCalls ns xs) b = evTop xs b
  | [], [], _ => by simp only [evCalls, topSum, evTop]
  | [], _ :: _, h => by simp at h
  | _ :: _, [], _ => by simp only [evCalls, topSum, evTop]
  | n :: ns, x :: xs, h => by
    simp only [evCalls, topSum, evTop, top]
    rw [evCalls_top ns xs (by simpa using h)]
theorem evens_len (c due : Int) : (evens c due).length ≤ 2 := by
  unfold evens
  split <;> split <;> simp
theorem evens_top {c due : Int} (hc : 2 ≤ c) (hd : 0 ≤ due) {b : Option Int} (hb : Bd b) : evTop (evens c due) b = due / (c - 1) * cut (c - 1) b + cut (due % (c - 1)) b := by
  have h1 : 0 ≤ due / (c - 1) := Int.ediv_nonneg hd (by omega)
  have h2 := Int.emod_nonneg due (show c - 1 ≠ 0 by omega)
  have z : cut 0 b = 0 := by
    cases b with
    | none => rfl
    | some x =>
      have := hb x rfl
      show min 0 (x - 1) = 0
      omega
  unfold evens
  by_cases q : due / (c - 1) > 0
  · rw [if_pos q]
    by_cases r : due % (c - 1) > 0
    · rw [if_pos r]
      simp [evTop]
    · rw [if_neg r, show due % (c - 1) = 0 by omega, z]
      simp [evTop]
  · rw [if_neg q, show due / (c - 1) = 0 by omega]
    by_cases r : due % (c - 1) > 0
    · rw [if_pos r]
      simp [evTop]
    · rw [if_neg r, show due % (c - 1) = 0 by omega, z]
      simp [evTop]
theorem even_fits {d e X A : Int} (hd : 1 ≤ d) (he : d ≤ e) (hX : 0 ≤ X) (hA : 0 ≤ A) (h : X ≤ sh d e A) : X / e * min e d + min (X % e) d ≤ A := by
  have x1 := Int.mul_ediv_add_emod X e
  have x2 := Int.emod_nonneg X (show e ≠ 0 by omega)
  have x3 := Int.emod_lt_of_pos X (show 0 < e by omega)
  have a1 := Int.mul_ediv_add_emod A d
  have a2 := Int.emod_nonneg A (show d ≠ 0 by omega)
  have a3 := Int.emod_lt_of_pos A (show 0 < d by omega)
  rw [show min e d = d by omega]
  unfold sh at h
  rw [Int.sub_mul] at h
  generalize X / e = q at *
  generalize X % e = r at *
  generalize A / d = u at *
  generalize A % d = v at *
  rcases Int.lt_trichotomy q u with g | g | g
  · have g1 := Int.mul_le_mul_of_nonneg_left (show q + 1 ≤ u by omega) (show 0 ≤ d by omega)
    rw [Int.mul_add, Int.mul_comm d q] at g1
    omega
  · subst g
    rw [Int.mul_comm q d]
    omega
  · have g1 := Int.mul_le_mul_of_nonneg_left (show u + 1 ≤ q by omega) (show 0 ≤ e by omega)
    rw [Int.mul_add] at g1
    omega
theorem listSum_some {p : Pile} {a c due : Int} (hc : 2 ≤ c) (h : listSum p a c = some due) : due ≤ sumOf p - a ∧ ∀ w m, (w, m) ∈ p → w > 1 → 0 ≤ lessOf p w - min a (w - 1) ∧ due ≤ listBound c w (lessOf p w - min a (w - 1)) := by
  unfold listSum at h
  split at h
  · cases h
  · rename_i hn
    rw [if_neg (by omega)] at h
    have e := Option.some.inj h
    obtain ⟨m1, m2⟩ := minL_le ((leftBeside p a).map fun x => listBound c x.1 x.2) (sumOf p - a)
    refine ⟨by omega, fun w m hm hw => ?_⟩
    have hx := leftBeside_mem (a := a) hm hw
    refine ⟨?_, ?_⟩
    · apply Classical.byContradiction
      intro hneg
      apply hn
      right
      have : (w, lessOf p w - min a (w - 1)) ∈ (leftBeside p a).filter fun x => decide (x.2 < 0) := List.mem_filter.mpr ⟨hx, decide_eq_true (by show lessOf p w - min a (w - 1) < 0; omega)⟩
      exact List.length_pos_of_mem this
    · have := m2 _ (List.mem_map.mpr ⟨_, hx, rfl⟩)
      simp only at this
      omega
theorem told_holds {p : Pile} {na nb nc : N} {a c due : Int} (ha : 1 ≤ a) (hc : 2 ≤ c) (hd : 0 ≤ due) (h : listSum p a c = some due) : holds p (told na nb nc a c due) = true := by
  obtain ⟨h1, h2⟩ := listSum_some hc h
  refine holds_iff.mpr ⟨fun x hx hw => ?_, ?_⟩
  · obtain ⟨q1, q2⟩ := h2 x.1 x.2 hx hw
    have hb : Bd (some x.1) := fun y e => by cases e; omega
    simp only [told, top, topSum]
    rw [evCalls_top _ _ (evens_len c due), evens_top hc hd hb]
    simp only [cut]
    have key : due / (c - 1) * min (c - 1) (x.1 - 1) + min (due % (c - 1)) (x.1 - 1) ≤ lessOf p x.1 - min a (x.1 - 1) := by
      by_cases hlt : x.1 < c
      · rw [listBound_sh hlt] at q2
        exact even_fits (by omega) (by omega) hd q1 q2
      · unfold listBound at q2
        rw [if_pos (by omega)] at q2
        have x1 := Int.mul_ediv_add_emod due (c - 1)
        have x3 := Int.emod_lt_of_pos due (show 0 < c - 1 by omega)
        rw [show min (c - 1) (x.1 - 1) = c - 1 by omega, Int.mul_comm]
        omega
    omega
  · simp only [told, top, topSum]
    rw [evCalls_top _ _ (evens_len c due), evens_top hc hd (b := Option.none) (fun x e => by cases e)]
    simp only [cut]
    have x1 := Int.mul_ediv_add_emod due (c - 1)
    rw [Int.mul_comm (due / (c - 1))]
    omega
def later (nb nc : N) (c due : Int) : Rt N := .all (.none :: evCalls [nb, nc] (evens c due))
theorem told_behind [DecidableEq N] {na nb nc : N} {a c due : Int} : behind (told na nb nc a c due) na a = some (later nb nc c due) := by
  unfold told later
  simp only [behind, behindAll]
  rw [if_neg (by simp)]
  rfl
theorem later_fails {left : Pile} {nb nc : N} {c m due : Int} (hc : 2 ≤ c) (hm : (c, m) ∈ left) (hd : 0 ≤ due) (h : lessOf left c < due) : holds left (later nb nc c due) = false := by
  apply Bool.eq_false_iff.mpr
  intro hh
  have q := (holds_iff.mp hh).1 _ hm (by show c > 1; omega)
  have q' : top (later nb nc c due) (some c) ≤ lessOf left c := q
  have hb : Bd (some c) := fun y e => by cases e; omega
  simp only [later, top, topSum] at q'
  rw [evCalls_top _ _ (evens_len c due), evens_top hc hd hb] at q'
  simp only [cut] at q'
  have x1 := Int.mul_ediv_add_emod due (c - 1)
  have x3 := Int.emod_lt_of_pos due (show 0 < c - 1 by omega)
  rw [show min (c - 1) (c - 1) = c - 1 by omega, Int.mul_comm (due / (c - 1))] at q'
  omega
theorem unsafe_mem {p left : Pile} {a c due : Int} (h : (c, due) ∈ unsafeAt p a left) : c ≥ 2 ∧ (∃ m, (c, m) ∈ left) ∧ listSum p a c = some due ∧ lessOf left c < due := by
  unfold unsafeAt at h
  obtain ⟨x, hx, e⟩ := List.mem_filterMap.mp h
  split at e
  · rename_i h1
    split at e
    · cases e
    · rename_i d hd
      split at e
      · rename_i hlt
        cases e
        exact ⟨by omega, ⟨x.2, hx⟩, hd, hlt⟩
      · cases e
  · cases e
theorem lessOf_nn : ∀ {p : Pile} {c : Int}, (∀ x ∈ p, 1 ≤ x.1 ∧ 1 ≤ x.2) → 0 ≤ lessOf p c
  | [], _, _ => Int.le_refl _
  | (w, m) :: p, c, h => by
    have h0 := h (w, m) (List.mem_cons_self ..)
    have ih := lessOf_nn (p := p) (c := c) fun x hx => h x (List.mem_cons_of_mem _ hx)
    have := Int.mul_nonneg (show 0 ≤ w by have := h0.1; simp only at this; omega) (show 0 ≤ m by have := h0.2; simp only at this; omega)
    unfold lessOf
    split <;> omega
end

/-! ### payings -/
def cnt (q : Pile) (w : Int) : Int := match q with
  | [] => 0
  | (x, m) :: r => if x = w then m else cnt r w
def takeL (p q : Pile) : Pile := (p.map fun x => (x.1, x.2 - cnt q x.1)).filter fun x => decide (x.2 > 0)
/-- so many used of each lot -/
def pick : Pile → List Int → Pile
  | (w, _) :: p, u :: us => if u > 0 then (w, u) :: pick p us else pick p us
  | _, _ => []
structure Pay (p : Pile) (us : List Int) : Prop where
  len : us.length = p.length
  rng : ∀ (i : Nat) (u : Int), us[i]? = some u → 0 ≤ u ∧ ∀ x : Int × Int, p[i]? = some x → u ≤ x.2
theorem Pay.tail {x : Int × Int} {u : Int} {p : Pile} {us : List Int} (h : Pay (x :: p) (u :: us)) : Pay p us ∧ 0 ≤ u ∧ u ≤ x.2 :=
  ⟨⟨by have := h.len; simpa using this, fun i v e => h.rng (i + 1) v (by simpa using e) |>.imp id fun g y hy => g y (by simpa using hy)⟩, (h.rng 0 u rfl).1, (h.rng 0 u rfl).2 x rfl⟩
theorem pick_fst : ∀ {p : Pile} {us : List Int} {x : Int × Int}, x ∈ pick p us → x.1 ∈ p.map (·.1)
  | [], _, x, h => by simp [pick] at h
  | (w, m) :: p, [], x, h => by simp [pick] at h
  | (w, m) :: p, u :: us, x, h => by
    simp only [pick] at h
    split at h
    · rcases List.mem_cons.mp h with e | h
      · subst e
        simp
      · have := pick_fst h
        simp only [List.map_cons, List.mem_cons]
        exact .inr this
    · have := pick_fst h
      simp only [List.map_cons, List.mem_cons]
      exact .inr this
theorem cnt_no : ∀ {q : Pile} {w : Int}, w ∉ q.map (·.1) → cnt q w = 0
  | [], _, _ => rfl
  | (x, m) :: r, w, h => by
    simp only [List.map_cons, List.mem_cons, not_or] at h
    unfold cnt
    rw [if_neg (fun e => h.1 e.symm)]
    exact cnt_no h.2
theorem cnt_pick_ne {p : Pile} {us : List Int} {w : Int} (h : w ∉ p.map (·.1)) : cnt (pick p us) w = 0 := cnt_no fun hm => by
  obtain ⟨x, hx, e⟩ := List.mem_map.mp hm
  exact h (e ▸ pick_fst hx)
/-- what is left, lot by lot -/
def rest : Pile → List Int → Pile
  | (w, m) :: p, u :: us => (w, m - u) :: rest p us
  | _, _ => []
theorem rest_eq : ∀ {p : Pile} {us : List Int}, Pay p us → (p.map (·.1)).Nodup → (p.map fun x => (x.1, x.2 - cnt (pick p us) x.1)) = rest p us
  | [], [], _, _ => rfl
  | [], _ :: _, h, _ => by have := h.len; simp at this
  | _ :: _, [], h, _ => by have := h.len; simp at this
  | (w, m) :: p, u :: us, h, nd => by
    obtain ⟨h1, h2, h3⟩ := h.tail
    simp only [List.map_cons, List.nodup_cons] at nd
    obtain ⟨n1, n2⟩ := nd
    have ih := rest_eq h1 n2
    have e0 : cnt (pick ((w, m) :: p) (u :: us)) w = u := by
      simp only [pick]
      split
      · simp [cnt]
      · rw [cnt_pick_ne n1]
        omega
    have e1 : ∀ x ∈ p, cnt (pick ((w, m) :: p) (u :: us)) x.1 = cnt (pick p us) x.1 := fun x hx => by
      simp only [pick]
      split
      · unfold cnt
        rw [if_neg]
        · cases pick p us <;> rfl
        · intro e
          exact n1 (e ▸ List.mem_map.mpr ⟨x, hx, rfl⟩)
      · rfl
    simp only [List.map_cons, rest]
    rw [e0, ← ih]
    congr 1
    exact List.map_congr_left fun x hx => by rw [e1 x hx]
theorem sum_filter {p : Pile} (h : ∀ x ∈ p, 0 ≤ x.2) : sumOf (p.filter fun x => decide (x.2 > 0)) = sumOf p := by
  induction p with
  | nil => rfl
  | cons x p ih =>
    obtain ⟨w, m⟩ := x
    have h0 := h (w, m) (List.mem_cons_self ..)
    have ih := ih fun y hy => h y (List.mem_cons_of_mem _ hy)
    by_cases q : m > 0
    · rw [List.filter_cons, if_pos (decide_eq_true q)]
      simp only [sumOf]
      rw [ih]
    · rw [List.filter_cons, if_neg (by simp; omega)]
      simp only [sumOf]
      rw [ih, show m = 0 by simp only at h0; omega]
      omega
theorem rest_nn : ∀ {p : Pile} {us : List Int}, Pay p us → ∀ x ∈ rest p us, 0 ≤ x.2
  | [], us, _, x, hx => by cases us <;> simp [rest] at hx
  | _ :: _, [], _, x, hx => by simp [rest] at hx
  | (w, m) :: p, u :: us, h, x, hx => by
    obtain ⟨h1, h2, h3⟩ := h.tail
    simp only [rest] at hx
    rcases List.mem_cons.mp hx with e | hx
    · subst e
      simp only at h3 ⊢
      omega
    · exact rest_nn h1 x hx
theorem rest_sum : ∀ {p : Pile} {us : List Int}, Pay p us → sumOf (rest p us) = sumOf p - sumOf (pick p us)
  | [], us, h => by cases us <;> simp [rest, pick, sumOf]
  | _ :: _, [], h => by have := h.len; simp at this
  | (w, m) :: p, u :: us, h => by
    obtain ⟨h1, h2, h3⟩ := h.tail
    have ih := rest_sum h1
    simp only [rest, pick, sumOf]
    rw [Int.mul_sub]
    split
    · simp only [sumOf]
      omega
    · rw [show u = 0 by omega]
      omega
theorem take_eq {p : Pile} {us : List Int} (h : Pay p us) (nd : (p.map (·.1)).Nodup) : takeL p (pick p us) = (rest p us).filter fun x => decide (x.2 > 0) := by
  unfold takeL
  rw [rest_eq h nd]
theorem take_sum {p : Pile} {us : List Int} (h : Pay p us) (nd : (p.map (·.1)).Nodup) : sumOf (takeL p (pick p us)) = sumOf p - sumOf (pick p us) := by
  rw [take_eq h nd, sum_filter (rest_nn h), rest_sum h]
end K27
end
section
set_option Elab.async false
set_option linter.all false
set_option maxRecDepth 100000
/-! Rules that the layer lacks: new tuples whose object is told; tuple * 0, 1; max of a pair; dict(tuple of pairs). -/
namespace K27
open PySem PySem.Spec PyProof.Rows L2
/-- a tuple whose object is known, without a dict of its own -/
def TF (H : Hp) (a : Addr) (xs : List V) : Prop := ∃ o : Obj, H a = some (.frz o (.tup xs)) ∧ o.dict = none
theorem TF.seq {K : PySem.W.Frag} {H : Hp} {a : Addr} {xs : List V} (h : TF H a xs) : SqT K H a xs := by
  obtain ⟨o, h, _⟩ := h
  exact .inl (.inr ⟨o, h⟩)
/-- a new one: at any free place, of any such object -/
def NewT (xs : List V) (H : Hp) (Q : VK) : Prop := ∀ p o, H p = none → Obj.dict o = none → Q (.ref p) (upd H p (.frz o (.tup xs)))
section
variable {X : Cx} {pins : List (Addr × Obj)} {σ : L2.St} {H : Hp} {s : Shared} {Q : VK}
theorem newT_ok {h' : Heap} {xs : List V} {us : List Value} (I : Inv X pins σ H { s with heap := h' }) (r : Vals xs us) (hz : xs.length ≤ sizeLine) (q : NewT xs H Q) :
    EP X pins σ Q (.ref h'.objs.size) { s with heap := h'.push { cls := .type "tuple", data := .seq us.toArray } } := by
  refine ⟨.ref h'.objs.size, _, I.laid (t' := s.toks) (o := .frz { cls := .type "tuple", data := .seq us.toArray } (.tup xs)) (fun b ob e => Heap.get?_push_of_some _ e) (Nat.le_refl _) ?_, rfl, q _ _ (I.hok.fresh (Nat.le_refl _)) rfl⟩
  exact ⟨Heap.get?_push_size _ rfl, hz, us, r, IsTup.new _ _⟩
def tTupF (t : TA) : TE := fun σ H Q => t σ H fun xs H1 => xs.length ≤ sizeLine ∧ NewT xs H1 Q
theorem pe_tupF {es : List Expr} {t : TA} {pos : Pos} {x1} (h : PA X es t) : PE X (.Tuple es x1 pos) (tTupF t) := by
  refine ⟨fun pins s σ H Q I hq => ?_⟩
  exact wpAny_Tuple_spliced (thn (h.run pos pins s σ H _ I hq) fun us s1 ⟨xs, H1, I1, r, z, q⟩ => ⟨by rw [← r.length]; exact z, newT_ok (h' := s1.heap) I1 r z q⟩)
theorem call_tupleF : CallR X (.type "tuple") (fun xs H Q => ∃ p ys, xs = [.ref p] ∧ SqL X.K H p ys ∧ NewT ys H Q) := by
  intro pins s σ H xs us Q I r h
  obtain ⟨p, ys, rfl, hq, q⟩ := h
  obtain ⟨u, rfl, rx⟩ := vals1 r
  cases rx
  obtain ⟨its, r', pl, hz⟩ := I.list hq
  have hlen := r'.length
  refine call_tuple_list pl.isList (fun h' kp => ?_) (by simp only [List.size_toArray] <;> omega)
  exact newT_ok (I.kept (t' := s.toks) kp) r' hz q
def rCatF (K : PySem.W.Frag) : R2 := fun x y H Q => ∃ a b xs ys, x = .ref a ∧ y = .ref b ∧ SqT K H a xs ∧ SqT K H b ys ∧ xs.length + ys.length ≤ sizeLine ∧ (xs = [] → Q (.ref b) H) ∧ (xs ≠ [] → ys = [] → Q (.ref a) H) ∧ (xs ≠ [] → ys ≠ [] → NewT (xs ++ ys) H Q)
theorem op_catF : OpR X (binaryOp .Add) (rCatF X.K) := by
  intro pins s σ H x y v u Q I rx ry h
  obtain ⟨a, b, xs, ys, rfl, rfl, ha, hb, hz, q0, q1, q2⟩ := h
  cases rx
  cases ry
  obtain ⟨its, r1, p1, _⟩ := I.tuple ha
  obtain ⟨its2, r2, p2, _⟩ := I.tuple hb
  by_cases hx : xs = []
  · subst hx
    cases r1
    exact cat_tup0 p1 p2 ⟨.ref b, H, I, rfl, q0 rfl⟩
  · refine HT.cat_tup p1 p2 (fun z => hx (r1.nil_iff.mp z)) (fun z => ⟨.ref a, H, I, rfl, q1 hx (r2.nil_iff.mp z)⟩) (fun z => ?_) (by rw [← r1.length, ← r2.length]; exact hz)
    exact newT_ok (h' := s.heap) I (r1.append r2) (by rw [List.length_append]; exact hz) (q2 hx fun w => z (r2.nil_iff.mpr w))
def rSlF (K : PySem.W.Frag) : V → Option Int → Option Int → Hp → VK → Prop := fun x lo hi H Q => ∃ a xs, x = .ref a ∧ SqT K H a xs ∧
  (HT.sIx xs.length 0 lo = 0 ∧ HT.sIx xs.length xs.length hi = xs.length → Q (.ref a) H) ∧ (¬ (HT.sIx xs.length 0 lo = 0 ∧ HT.sIx xs.length xs.length hi = xs.length) → NewT (cutV xs lo hi) H Q)
theorem sl_tupF : SlR X (rSlF X.K) := by
  intro pins s σ H x v vl vu lo hi sl Q I rx hs pl pu h
  obtain ⟨a, xs, rfl, hx, q1, q2⟩ := h
  cases rx
  obtain ⟨its, r, ht, hz⟩ := I.tuple hx
  have hlen : its.toArray.size = xs.length := by rw [List.size_toArray]; exact r.length.symm
  refine ⟨"tuple", _, PyProof.Rows.slot_tuple_getitem.lookup, ht.typeIs, ?_⟩
  by_cases hw : HT.sIx xs.length 0 lo = 0 ∧ HT.sIx xs.length xs.length hi = xs.length
  · exact getItem_tuple_whole ht hs pl pu (by rw [hlen]; exact hw) ⟨.ref a, H, I, rfl, q1 hw⟩
  · refine HT.getItem_tuple_cut ht hs pl pu (by rw [hlen]; exact hw) ?_ (by rw [hlen]; exact hz)
    rw [hlen]
    exact newT_ok (h' := s.heap) I ((r.drop _).take _) (Nat.le_trans (cutV_length xs lo hi) hz) (q2 hw)
/-! max of a pair of whole numbers -/
theorem cr_maxT (hc : X.calm = true) (hu : X.A.units + 1 < cLine) : CallR X (.builtin "max") (fun vs H Q => ∃ a i j, vs = [.ref a] ∧ SqT X.K H a [.int i, .int j] ∧ Q (.int (max i j)) H) := by
  intro pins s σ H xs us Q I r h
  obtain ⟨a, i, j, rfl, hq, q⟩ := h
  obtain ⟨u, rfl, rx⟩ := vals1 r
  cases rx
  obtain ⟨its, rv, p, _⟩ := I.tuple hq
  obtain ⟨u1, u2, rfl, ⟨t1, rfl⟩, ⟨t2, rfl⟩⟩ := vals2 rv
  refine PySem.W.max_tuple_data (x := .int i) (xs := [.int j]) (as := []) (I.ok.hd hc) (show s.heap.IsTuple a _ from p) (.cons (.int i t1) (.cons (.int j t2) .nil)) ⟨?_, ?_⟩ ?_ fun k v h' tk bs hv hr hk => ?_
  · intro x hx y hy
    simp only [List.mem_cons, List.not_mem_nil, or_false] at hx hy
    rcases hx with rfl | rfl <;> rcases hy with rfl | rfl <;> rfl
  · intro x hx
    simp only [List.mem_cons, List.not_mem_nil, or_false] at hx
    rcases hx with rfl | rfl <;> exact fun e => nomatch e
  · show X.A.units + 1 + 0 < cLine
    exact hu
  · rw [show PySem.W.maxD (.int i) [.int j] = .int ([j].foldl max i) from PySem.W.maxD_ints i [j]] at hr
    cases hr
    exact ⟨.int (max i j), H, I.kept hk, ⟨_, rfl⟩, q⟩
end
end K27
end
section
set_option Elab.async false
set_option linter.all false
set_option maxRecDepth 100000
set_option maxHeartbeats 4000000
namespace K27
open PySem PySem.Spec PyProof.Rows L2
/-! tuple * 1, tuple * 0 -/
theorem tup_times1 (l : Addr) (items : Array Value) (n : Nat) (dd : Option Addr) (sl : Array (Option Value)) (u : Tok) :
    Meets (Builtin.«tuple.__mul__» ⟨[.ref l, .int 1 u], []⟩) (fun _ R s => s.heap.get? l = some { cls := .type "tuple", dict := dd, data := .seq items n, slots := sl } ∧ R (.ok (.ret (Value.ref l))) s) := .of_wp fun prog w A R s h => by
  obtain ⟨hp, g, d, tk, os⟩ := s
  obtain ⟨hl, h⟩ := h
  have f1 := AutoSeq1.idx_int
  wp_walk using wpAny_loadPart' hl
  exact ⟨_, rfl, h⟩
theorem tup_times0 (l : Addr) (items : Array Value) (n : Nat) (dd : Option Addr) (sl : Array (Option Value)) (u : Tok) (hi : items.isEmpty = false) :
    Meets (Builtin.«tuple.__mul__» ⟨[.ref l, .int 0 u], []⟩) (fun _ R s => s.heap.get? l = some { cls := .type "tuple", dict := dd, data := .seq items n, slots := sl } ∧ R (.ok (.ret (Value.ref s.heap.objs.size))) { s with heap := s.heap.push { cls := .type "tuple", data := .seq #[] } }) := .of_wp fun prog w A R s h => by
  obtain ⟨hp, g, d, tk, os⟩ := s
  obtain ⟨hl, h⟩ := h
  have f1 := AutoSeq1.idx_int
  wp_walk using wpAny_loadPart' hl
  exact ⟨_, rfl, h⟩
def rRep01 (K : PySem.W.Frag) : R2 := fun x y H Q => ∃ l k xs, x = .ref l ∧ y = .int k ∧ SqT K H l xs ∧ xs ≠ [] ∧ ((k = 1 ∧ Q (.ref l) H) ∨ (k = 0 ∧ NewT [] H Q))
section
variable {X : Cx}
theorem op_rep01 : OpR X (binaryOp .Mult) (rRep01 X.K) := by
  intro pins s σ H x y v u Q I rx ry h
  obtain ⟨l, k, xs, rfl, rfl, hT, hne, h⟩ := h
  cases rx
  obtain ⟨t, rfl⟩ := ry
  obtain ⟨its, r, ⟨⟨cls, dd, data, sl⟩, ho, hc, n, hd⟩, hs⟩ := I.tuple hT
  simp only at hc hd
  subst hc hd
  have hi : its.toArray.isEmpty = false := by
    cases its with
    | nil =>
      cases r
      exact absurd rfl hne
    | cons a b => rfl
  refine wpAny_binaryOp_repeat_ref (T := "tuple") (U := "int") (by decide) ⟨_, ho, rfl⟩ (fun s' => typeIs_int s' k t) noFill_tuple_mul F.fills_int_mul F.slot_int_rmul repeat_tuple F.slot_int_index.lookup ?_
  refine call_meets F.slot_int_rmul (typeIs_int s k t) F.entry_int_rmul (F.args_int_rmul_2 _ _) (int_rmul_tuple k t l its.toArray n dd sl) ⟨ho, rfl, ⟨_, ho, rfl⟩, ?_⟩
  rcases h with ⟨rfl, q⟩ | ⟨rfl, q⟩
  · exact call_meets F.slot_tuple_mul ⟨_, ho, rfl⟩ F.entry_tuple_mul (F.args_tuple_mul_2 _ _) (tup_times1 l its.toArray n dd sl t) ⟨ho, .ref l, H, I, rfl, q⟩
  · exact call_meets F.slot_tuple_mul ⟨_, ho, rfl⟩ F.entry_tuple_mul (F.args_tuple_mul_2 _ _) (tup_times0 l its.toArray n dd sl t hi) ⟨ho, newT_ok (h' := s.heap) (us := []) I (show Vals [] [] from .nil) (Nat.zero_le _) q⟩
/-! dict of a tuple of pairs -/
theorem call_dictT (hc : X.calm = true) : CallR X (.type "dict") (fun xs H Q => ∃ (a : Addr) (ps : List Addr) (kvs : List (L2.Key × V)), xs = [.ref a] ∧ TF H a (ps.map V.ref) ∧ Paired (fun p kv => SqT X.K H p [kV kv.1, kv.2]) ps kvs ∧
    ∀ p, H p = none → Q (.ref p) (upd H p (.dK (mergeK [] kvs)))) := by
  intro pins s σ H xs us Q I r q
  obtain ⟨a, ps, kvs, rfl, ⟨ob, hq, hdd⟩, hp, q⟩ := q
  obtain ⟨u, rfl, rx⟩ := vals1 r
  cases rx
  obtain ⟨ho, hz, its, rv, p⟩ : s.heap.get? a = some ob ∧ (ps.map V.ref).length ≤ sizeLine ∧ ∃ its : List Value, Vals (ps.map V.ref) its ∧ IsTup s.heap a its.toArray := I.hok a _ hq
  have ei := refs_at rv
  subst ei
  rw [List.length_map] at hz
  obtain ⟨prs, rel, hl, hpr⟩ := pairs_of I hp
  obtain ⟨o', ho', hcl, n, hdat⟩ := p
  rw [ho] at ho'
  cases ho'
  have key : ∃ ks : List Value, ks.length = prs.length ∧ ∀ (j : Nat) (q : L2.Key × Value), prs[j]? = some q → ∃ (b : Addr) (u : Value), ps[j]? = some b ∧ ks[j]? = some u ∧ IsTup s.heap b #[u, q.2] ∧ keyIs q.1 u = true := by
    refine ⟨(List.range prs.length).map fun j => match (s.heap.get? (ps.getD j 0)).map Obj.data with
      | some (.seq vs _) => vs.getD 0 .none
      | _ => .none, by simp, fun j q' e => ?_⟩
    obtain ⟨b, u, e1, e2, e3⟩ := hpr j q' e
    refine ⟨b, u, e1, ?_, e2, e3⟩
    have hj : j < prs.length := (List.getElem?_eq_some_iff.mp e).1
    rw [List.getElem?_map, List.getElem?_range hj]
    obtain ⟨ob2, g1, g2, m, g3⟩ := e2
    have e1' : ps.getD j 0 = b := by rw [List.getD_eq_getElem?_getD, e1]; rfl
    simp only [Option.map_some, e1', g1, g3]
    rfl
  obtain ⟨ks, hk1, hk2⟩ := key
  have zl : (ks.zip (prs.map Prod.snd)).length = prs.length := by
    rw [List.length_zip, hk1, List.length_map]
    omega
  have get : ∀ (j : Nat) (q : L2.Key × Value) (u : Value), prs[j]? = some q → ks[j]? = some u → (ks.zip (prs.map Prod.snd))[j]? = some (u, q.2) := fun j q' u e1 e2 => by
    rw [List.getElem?_zip_eq_some]
    exact ⟨e2, by rw [List.getElem?_map, e1]; rfl⟩
  refine PySem.call_dict_pairs (knd := mixKind X.prog X.w) (kvs := prs) (PairArg.tuple a (ps.map Value.ref).toArray (fun j => ps.getD j 0) (ks.zip (prs.map Prod.snd))) (I.ok.hd hc) ⟨⟨ob, n, ho, hcl, hdd, hdat⟩, ⟨by rw [zl, List.size_toArray, List.length_map, hl], fun j k v e => ?_⟩⟩ ⟨zl.symm, fun j k v e => ?_⟩ (by rw [zl, hl]; exact hz) fun h' tk hd' kk => ?_
  · have hj : j < prs.length := by rw [← zl]; exact (List.getElem?_eq_some_iff.mp e).1
    obtain ⟨b, u, e1, e2, e3, e4⟩ := hk2 j prs[j] (List.getElem?_eq_getElem hj)
    rw [get j _ u (List.getElem?_eq_getElem hj) e2] at e
    cases e
    refine ⟨?_, .inl (show s.heap.IsTuple (ps.getD j 0) _ from ?_)⟩
    · simp [e1]
    · rw [show ps.getD j 0 = b by rw [List.getD_eq_getElem?_getD, e1]; rfl]
      exact e3
  · have e' : (ks.zip (prs.map Prod.snd))[j]? = some (k, v) := e
    have hj : j < prs.length := by rw [← zl]; exact (List.getElem?_eq_some_iff.mp e').1
    obtain ⟨b, u, e1, e2, e3, e4⟩ := hk2 j prs[j] (List.getElem?_eq_getElem hj)
    rw [get j _ u (List.getElem?_eq_getElem hj) e2] at e'
    cases e'
    exact ⟨prs[j].1, List.getElem?_eq_getElem hj, e4⟩
  · have hm : (s.heap.objs.size == sysModules) = false := beq_eq_false_iff_ne.mpr (Nat.ne_of_gt I.big)
    have hlen : (mergeK [] kvs).length ≤ sizeLine := by
      have := length_mergeK kvs []
      rw [List.length_nil, Nat.zero_add, rel.length, hl] at this
      exact Nat.le_trans this hz
    exact ⟨.ref s.heap.objs.size, upd H s.heap.objs.size (.dK (mergeK [] kvs)), I.laid (t' := tk) (fun b o e => kk b o (fun z => nomatch z) e) (Nat.le_refl _) (show ObjOk X.prog X.w _ _ _ (.dK (mergeK [] kvs)) from ⟨hlen, hm, merged [] prs, KV.merge rel .nil, hd'⟩), rfl, q _ (I.hok.fresh (Nat.le_refl _))⟩
end
/-! len(set(texts)), no two alike -/
section
variable {prog : Program} {w : World} {A : Around} {R : Result → Shared → Prop} {I : Addr} {fp wr : List Addr} {G : Array GenState → Array GenState → Prop} {n : Nat} {Pr : Nat → Value → Prop} {Sx : Nat → Shared → Prop}
abbrev seen (xs : List Str) (i : Nat) : Str → Bool := fun y => (xs.take i).any (· == y)
theorem seen_next {xs : List Str} (nd : xs.Nodup) {i : Nat} (hi : i < xs.length) : seen xs i (xs.getD i Str.empty) = false ∧ ∀ y, (seen xs i y || decide (y = xs.getD i Str.empty)) = seen xs (i + 1) y := by
  have e : xs.getD i Str.empty = xs[i] := by
    rw [List.getD_eq_getElem?_getD, List.getElem?_eq_getElem hi]
    rfl
  rw [e]
  constructor
  · apply Bool.eq_false_iff.mpr
    intro h
    obtain ⟨y, hy, ey⟩ := List.any_eq_true.mp h
    have ey' : y = xs[i] := eq_of_beq ey
    subst ey'
    obtain ⟨j, hj⟩ := List.mem_iff_getElem?.mp hy
    rw [List.getElem?_take] at hj
    split at hj
    · rename_i hlt
      obtain ⟨h1, h2⟩ := List.getElem?_eq_some_iff.mp hj
      exact absurd h2 (List.pairwise_iff_getElem.mp nd j i h1 hi hlt)
    · cases hj
  · intro y
    show ((xs.take i).any (· == y) || decide (y = xs[i])) = (xs.take (i + 1)).any (· == y)
    rw [List.take_add_one, List.getElem?_eq_getElem hi, List.any_append]
    by_cases h : y = xs[i]
    · subst h
      simp
    · have hb : (xs[i] == y) = false := beq_eq_false_iff_ne.mpr fun z => h z.symm
      simp [h, hb]
theorem set_loop (W : WalksS prog w A.in1 I fp wr G n Pr Sx) (S : Addr) (hSf : S ∉ fp) (xs : List Str) (hx : xs.length = n) (nd : xs.Nodup) (hb : n + 1 < scanBound) (hval : ∀ i v, Pr i v → ∃ t, v = .str (xs.getD i Str.empty) t) :
    ∀ (k i : Nat) (s : Shared), n = i + k → Sx i s → s.heap.SetOf (PySem.strKind prog w) S (seen xs i) i →
      (∀ s', Moved (S :: wr) G s s' → s'.heap.SetOf (PySem.strKind prog w) S (seen xs n) n → R (.ok (.ret .none)) s') → codeAny (model prog w) A (.builtin "set.update.loop" ⟨[.ref S, .ref I], []⟩) R s := by
  have nw : S ∉ wr := fun h => hSf (W.sub _ h)
  have sub : ∀ b ∈ wr, b ∈ S :: wr := fun b hb => List.mem_cons_of_mem _ hb
  intro k
  induction k with
  | zero =>
    intro i s hk hst hS hR
    obtain rfl : n = i := by omega
    refine codeAny_builtin PyProof.Rows.F.entry_set_update_loop ?_
    rw [Around.under_plainId PyProof.Rows.F.plain_set_update_loop _]
    refine wpAny_bind (W.done s _ _ hst fun s' hm => wpAny_pure (hR s' (hm.mono sub) ?_))
    obtain ⟨o, es, ep, t, ho, r⟩ := hS
    exact ⟨o, es, ep, t, hm.heap S _ nw ho, r⟩
  | succ k ih =>
    intro i s hk hst hS hR
    have hlt : i < n := by omega
    obtain ⟨f1, f2⟩ := seen_next nd (i := i) (by omega)
    refine codeAny_builtin PyProof.Rows.F.entry_set_update_loop ?_
    rw [Around.under_plainId PyProof.Rows.F.plain_set_update_loop _]
    refine wpAny_bind (W.item i s _ _ hlt hst fun v s' hP hst' hm => ?_)
    obtain ⟨t, rfl⟩ := hval i v hP
    have hS' : s'.heap.SetOf (PySem.strKind prog w) S (seen xs i) i := by
      obtain ⟨o, es, ep, tb, ho, r⟩ := hS
      exact ⟨o, es, ep, tb, hm.heap S _ nw ho, r⟩
    generalize hx0 : xs.getD i Str.empty = x0 at f1 f2
    show wpAny _ A.in1 (holding [Value.str x0 t] (setAdd S (.str x0 t)) >>= _) _ _ s'
    refine wpAny_bind (wpAny_holding ?_)
    unfold setAdd
    refine wpAny_holding (wpAny_bind ((PySem.strKind prog w).pyHash (k := x0) (strKind_is _ _ _ _) ?_))
    refine wpAny_setAddHashed_of (knd := PySem.strKind prog w) (s := { s' with toks := s'.toks + 1 }) (strKind_is _ _ _ _) rfl hS' (by omega) fun h' hsb hS2 => ?_
    have hS3 : h'.SetOf (PySem.strKind prog w) S (seen xs (i + 1)) (i + 1) := PyProof.Rows.SetOf_congr hS2 f2 (by rw [f1]; rfl)
    refine wpAny_pure ⟨plainId_quiet PyProof.Rows.F.plain_set_update_loop _, ih (i + 1) _ (by omega) (W.frame _ s' _ _ hst' (Nat.le_succ _) fun b hbf o e => ?_) hS3 fun s2 hm2 hS4 => hR s2 (Moved.trans W.gtrans ((hm.mono sub).then_heap (Nat.le_succ _) fun b o hn e => ?_) hm2) hS4⟩
    · rw [hsb.2 b (fun z : b = S => hSf (z ▸ hbf))]
      exact e
    · rw [hsb.2 b (fun z : b = S => hn (z ▸ List.mem_cons_self))]
      exact e
end
section
variable {prog : Program} {w : World} {A : Around} {E : Value → Shared → Prop} {s : Shared}
abbrev set0 (led : Bool) : Obj := { cls := .type "set", dict := none, data := .set #[] 0 (.fresh 0 0 led) }
theorem call_setS {l : Addr} {items : Array Value} {xs : List Str} {Q : Value → Shared → Prop} (hh : A.handled = none) (hl : s.heap.IsList l items) (hi : PyProof.Rows.StrsAre items.toList xs) (nd : xs.Nodup) (hb : xs.length + 1 < scanBound)
    (h : ∀ (h' : Heap) (tk : Nat), h'.SetOf (PySem.strKind prog w) s.heap.objs.size (seen xs xs.length) xs.length → (∀ b o, b < s.heap.objs.size → s.heap.get? b = some o → h'.get? b = some o) → Q (.ref s.heap.objs.size) { s with heap := h', toks := tk }) :
    wpAny (model prog w) A (call (.type "set") [.ref l]) Q E s := by
  obtain ⟨c, tl, hmro⟩ := PySem.F.called_set.mro
  have hmade := PySem.F.called_set.made
  have hsub := PySem.F.called_set.sub
  refine wpAny_call (codeAny_of_tree (wpAny_pure ⟨Code.quiet_builtin _ (by decide +kernel), codeAny_builtin PySem.F.entry_type_call ?_⟩))
  rw [Around.under_plain (weight_type_call_type "set" [.ref l] []) rfl]
  have h1 := PySem.F.called_set.notType
  have h2 := PySem.F.called_set.canCreate
  have hct := PySem.F.typeCall_set_1 (.ref l)
  repeat (any_goals (first | assumption | wp_step))
  refine codeAny_mono (code_set_new_1 (.ref l) (E := E) (Q₁ := fun obj s1 => ∃ led : Bool, obj = .ref s.heap.objs.size ∧ s1 = { s with heap := s.heap.push (set0 led) }) fun led => ⟨led, rfl, rfl⟩) fun r s1 hr => ?_
  cases r with
  | error e => exact hr
  | ok fl =>
    cases fl with
    | ret obj =>
      obtain ⟨led, rfl, rfl⟩ := hr
      have hS : (s.heap.push (set0 led)).get? s.heap.objs.size = some (set0 led) := Heap.get?_push_size _ rfl
      have hT : Shared.TypeIs { s with heap := s.heap.push (set0 led) } (.ref s.heap.objs.size) "set" := ⟨_, hS, rfl⟩
      have hli := PySem.F.called_set.init.lookup
      have hbi := PySem.F.called_set.init.bind (.ref s.heap.objs.size)
      repeat (any_goals (first | assumption | wp_step))
      refine codeAny_mono (codeAny_call_builtin (R := wants (fun r s2 => r = .none ∧ ∃ h' tk, s2 = { s with heap := h', toks := tk } ∧ h'.SetOf (PySem.strKind prog w) s.heap.objs.size (seen xs xs.length) xs.length ∧
          (∀ b o, b < s.heap.objs.size → s.heap.get? b = some o → h'.get? b = some o)) E) PySem.F.called_set.init.plain PySem.F.entry_set_init (check_set_init_1 hT ?_)) fun r2 s2 hr2 => ?_
      · obtain ⟨⟨ocls, odict, odata, oslots⟩, hol, hcl, nl, hdl⟩ := hl
        simp only at hcl hdl
        subst hcl
        subst hdl
        have hol1 : (s.heap.push (set0 led)).get? l = some { cls := .type "list", dict := odict, data := .seq items nl, slots := oslots } := Heap.get?_push_of_some _ hol
        have hsls := PySem.F.sub_list_set
        have hslf := PySem.F.sub_list_frozenset
        have hne : (Value.type "list" == Value.type "dict") = false := by decide
        have hl1 : (s.heap.push (set0 led)).IsList l items := ⟨_, hol1, rfl, nl, rfl⟩
        have hlS : l < s.heap.objs.size := Heap.lt_size hol
        unfold Builtin.«set.__init__» noKeywords Builtin.Frozenset.updateFrom
        generalize hPI : pyIter = PI
        wp_walk
        subst hPI
        refine wpAny_pyIter_list hl1 (wpAny_bind (wpAny_runValue ?_))
        have hz : (s.heap.push (set0 led)).objs.size = s.heap.objs.size + 1 := Heap.size_push ..
        have hxs : xs.length = items.size := by rw [← StrsAre.len_eq hi, Array.length_toList]
        refine set_loop (A := A.in1.in1) ((Walks.list (A := A.in1.in1.in1) (by simp [hh]) _ l (by rw [hz]; exact Nat.ne_of_lt (Nat.lt_succ_of_lt hlS)) items).toS) s.heap.objs.size ?_ xs hxs nd (by omega)
          (fun i v hv => SS.strs_at hi i v (by rw [Array.getElem?_toList]; exact hv)) items.size 0 _ (by omega) ⟨⟨_, Heap.get?_push_size _ rfl, rfl, rfl⟩, hl1.push _⟩ ?_ ?_
        · rw [hz]
          simp only [List.mem_cons, List.not_mem_nil, or_false, not_or]
          exact ⟨Nat.ne_of_lt (Nat.lt_succ_self _), Nat.ne_of_gt hlS⟩
        · exact PyProof.Rows.SetOf_congr ((PyProof.Rows.setObjOf_fresh (knd := PySem.strKind prog w) led).setOf (Heap.get?_push_of_some _ hS) (by unfold scanBound; omega)) (fun _ => rfl) rfl
        · intro s3 hm hS3
          obtain ⟨h3, g3, d3, tk3, os3⟩ := s3
          obtain rfl : g3 = s.gens := hm.gens
          obtain rfl : d3 = s.drawn := hm.drawn
          obtain rfl : os3 = s.os := hm.os
          rw [← hxs] at hS3
          refine wpAny_pure (wpAny_pure ⟨rfl, h3, tk3, rfl, hS3, fun b o hlt e => hm.heap b o ?_ (Heap.get?_push_of_some _ (Heap.get?_push_of_some _ e))⟩)
          rw [hz]
          simp only [List.mem_cons, List.not_mem_nil, or_false, not_or]
          exact ⟨Nat.ne_of_lt hlt, Nat.ne_of_lt (Nat.lt_succ_of_lt hlt)⟩
      · cases r2 with
        | error e => exact hr2
        | ok fl2 =>
          cases fl2 with
          | ret r =>
            obtain ⟨rfl, h', tk, rfl, hS', hk'⟩ := hr2
            repeat (any_goals (first | assumption | wp_step))
            exact h _ _ hS' hk'
          | _ => exact hr2.elim
    | _ => exact hr.elim
end
end K27
end
section
set_option Elab.async false
set_option linter.all false
set_option maxRecDepth 100000
set_option maxHeartbeats 4000000
namespace K27
open PySem PySem.Spec PyProof.Rows L2
section
variable {X : Cx}
def tLenSetT (K : PySem.W.Frag) (ta : TE) : TE := fun σ H Q => ta σ H fun x H1 => ∃ (l : Addr) (xs : List Str), x = .ref l ∧ SqL K H1 l (xs.map V.str) ∧ xs.Nodup ∧ xs.length ≤ 1000 ∧ Q (.int (xs.length : Nat)) H1
theorem pe_lenSetT {a : Expr} {ta : TE} {p p2 q pos : Pos} (hc : X.calm = true) (hg : Gl X "len") (hm : X.mg "len" = none) (hg2 : Gl X "set") (hm2 : X.mg "set" = none) (ha : PE X a ta)
    (na : starEach [a] X.env = (false, eval a X.env) :: starEach [] X.env := by rfl) : PE X (.Call (.Name "len" p) [.Call (.Name "set" p2) [a] [] q] [] pos) (tLenSetT X.K ta) := by
  refine ⟨fun pins s σ H Q I h => Call_ (ld_blt I hg hm boot_len (PyProof.Rows.callWith_builtin1 (PyProof.Rows.args_cons (Call_ (ld_blt I hg2 hm2 boot_set ?_)) rfl) rfl rfl))⟩
  refine PyProof.Rows.callWith_type1 (PyProof.Rows.args_cons (thn (ha.run pins s σ H _ I h) fun v s1 ⟨x, H1, I1, r1, q1⟩ => PyProof.Rows.args_nil ?_) na) na rfl
  obtain ⟨l, xs, rfl, hq, nd, hz, q1⟩ := q1
  cases r1
  obtain ⟨its, r, pl, _⟩ := I1.list hq
  refine call_setS (I1.ok.hd hc) pl.isList (by simpa using strsAre_of r) nd (by unfold scanBound; omega) fun h' tk hS hk => PyProof.Rows.args_nil ?_
  obtain ⟨o, es, ep, t, ho, hex, hd, _, _, _, hf, hn⟩ := hS
  have I2 : Inv X pins σ H1 { s1 with heap := h', toks := tk } := I1.kept fun b o e => hk b o (Heap.lt_size e) e
  exact call_len_set ho hex hd hf (by rw [hn] <;> omega) ⟨.int xs.length, H1, I2.tok _, ⟨_, by rw [hn]⟩, q1⟩
/-! sorted of nested data -/
theorem each_of {h : Heap} {K : PySem.W.Frag} {H : Hp} {pins : List (Addr × Obj)} {σ : L2.St} {s : Shared} (I : Inv X pins σ H s) : ∀ {xs : List V} {ds : List PyData} {us : List Value}, Vals xs us → DpAll X.K H xs ds →
    PySem.W.EachIs (fun (v : Value) (b : V × PyData) => RelV b.1 v) us (xs.zip ds) ∧ PySem.W.EachIs (fun (v : Value) (b : V × PyData) => ∃ as, Reads s.heap v b.2 as) us (xs.zip ds)
  | _, _, _, .nil, .nil => ⟨.nil, .nil⟩
  | _, _, _, .cons r t, .cons h1 h2 => by
    obtain ⟨a, b⟩ := each_of (h := h) (K := K) I t h2
    exact ⟨.cons r a, .cons (Dp.reads I _ _ _ h1 r) b⟩
theorem each_vals : ∀ {us : List Value} {bs : List (V × PyData)}, PySem.W.EachIs (fun (v : Value) (b : V × PyData) => RelV b.1 v) us bs → Vals (bs.map Prod.fst) us
  | _, _, .nil => .nil
  | _, _, .cons r t => .cons r (each_vals t)
theorem dpAll_len {K : PySem.W.Frag} {H : Hp} : ∀ {xs : List V} {ds : List PyData}, DpAll K H xs ds → xs.length = ds.length
  | _, _, .nil => rfl
  | _, _, .cons _ t => congrArg (· + 1) (dpAll_len t)
theorem cr_sortedU (hu : X.A.units + 64 < cLine) : CallR X (.builtin "sorted") (fun vs H Q => ∃ (a : Addr) (xs : List V) (ds : List PyData), vs = [.ref a] ∧ SqL X.K H a xs ∧ DpAll X.K H xs ds ∧ PySem.W.AllAlike ds ∧ PySem.W.Sortable ds ∧ (∀ d ∈ ds, d.depth ≤ 8) ∧
    ∀ (bs : List (V × PyData)) (p : Addr), bs.Perm (xs.zip ds) → H p = none → Q (.ref p) (upd H p (.lst (bs.map Prod.fst)))) := by
  intro pins s σ H vs us Q I r h
  obtain ⟨a, xs, ds, rfl, hq, hd, hal, hso, hdp, q⟩ := h
  obtain ⟨its, rv, pl, hz⟩ := I.list hq
  obtain ⟨u, rfl, rx⟩ := vals1 r
  cases rx
  have hl := dpAll_len hd
  obtain ⟨e1, e2⟩ := each_of (h := s.heap) (K := X.K) I rv hd
  have hm : (xs.zip ds).map Prod.snd = ds := by
    rw [List.map_snd_zip]
    omega
  have hzl : (xs.zip ds).length = xs.length := by
    rw [List.length_zip]
    omega
  refine PySem.W.sorted_data (enc := Prod.snd) (bs := xs.zip ds) pl.isList e1 e2 (by rw [hm]; exact hal) (by rw [hm]; exact hso) (by rw [hzl]; exact hz) (fun b hb => ?_) fun out h1 h2 => ?_
  · have := hdp b.2 (by rw [← hm]; exact List.mem_map.mpr ⟨b, hb, rfl⟩)
    omega
  · obtain ⟨ep, he⟩ := PyProof.Rows.sortedAll_at s.heap its out.toArray
    have pm : ((xs.zip ds).mergeSort (PySem.W.dataLe false Prod.snd)).Perm (xs.zip ds) := List.mergeSort_perm _ _
    have rv2 := each_vals h2
    refine ⟨.ref (s.heap.objs.size + 1), upd H (s.heap.objs.size + 1) (.lst (((xs.zip ds).mergeSort (PySem.W.dataLe false Prod.snd)).map Prod.fst)), I.laid (t' := s.toks) (fun _ _ => PyProof.Rows.sortedAll_old) (Nat.le_succ _) ?_, rfl, q _ _ pm (I.hok.fresh (Nat.le_succ _))⟩
    exact ⟨by rw [List.length_map, pm.length_eq, hzl]; exact hz, out, ep, rv2, he⟩
end
end K27
end
section
set_option Elab.async false
set_option linter.all false
set_option maxRecDepth 100000
set_option maxHeartbeats 4000000
namespace K27
open PySem PySem.Spec PyProof.Rows L2
/-! list(text) -/
section
variable {prog : Program} {w : World} {A : Around} {E : Value → Shared → Prop} {s : Shared} {x : Str} {t : Tok}
theorem hint_str {Q : Bool → Shared → Prop} (h : Q false s) : wpAny (model prog w) A (Builtin.List.listLengthHint (.str x t)) Q E s := by
  have hT := typeIs_str s x t
  unfold Builtin.List.listLengthHint
  refine wpAny_bind (wpAny_specialOf hT PySem.F.slot_str_len.lookup ?_)
  generalize hid : ("str.__len__" : String) = nm
  wp_delta
  rw [show splitId nm = some ("str", "__len__") from by subst hid; decide +kernel]
  subst hid
  refine wpAny_bind (wpAny_isInstance (T := "str") (b := true) hT (by rw [isSubtype_type]; kernel_rfl) ?_)
  refine wpAny_ite_split (fun z => absurd z (by decide)) (fun _ => ?_)
  refine wpAny_ite_split (fun _ => ?_) (fun z => absurd (by decide +kernel) z)
  exact wpAny_bind (wpAny_typeOf hT (wpAny_pure h))
theorem extend_str {R : Result → Shared → Prop} (hx : x.cps.all (· < 128) = true) (hh : A.handled = none) (S : Addr) (res : Value) (c0 : Nat) (hS : s.heap.get? S = some { cls := .type "list", data := .seq #[] c0 })
    (hR : ∀ h' tk acc c, (∀ b o, b ≠ S → s.heap.get? b = some o → h'.get? b = some o) → h'.get? S = some { cls := .type "list", dict := none, data := .seq acc c, slots := #[] } → ItemsOf (SignAt x) acc x.cps.size → R (.ok (.ret res)) { s with heap := h', toks := tk }) (hn : x.cps.size ≤ sizeLine) :
    wpAny (model prog w) A.in1 (Builtin.List.listExtendWith (.ref S) (.str x t) res)
      (fun fin s' => match fin with | .done f => R (.ok f) s' | .again c' => c'.quiet = true ∧ codeAny (model prog w) A c' R s') (fun e s' => R (.error e) s') s := by
  have nS : S ≠ s.heap.objs.size := Nat.ne_of_lt (Heap.lt_size hS)
  have hSf : S ∉ [s.heap.objs.size] := by simpa using nS
  have W := Walks.strAscii (prog := prog) (w := w) (A := A.in1) (by simpa using hh) s.heap.objs.size x t
  have key : ∀ (h : Heap) (c1 tk : Nat), h.IsStrIter s.heap.objs.size "str_ascii_iterator" x t 0 → (∀ b o, b ≠ S → s.heap.get? b = some o → h.get? b = some o) →
      h.get? S = some { cls := .type "list", data := .seq #[] c1 } → codeAny (model prog w) A (.builtin "list.extend.loop" ⟨[.ref S, .ref s.heap.objs.size, res], []⟩) R { s with heap := h, toks := tk } := by
    intro h c1 tk hst hk h1
    refine codeAny_extend_loopS W.toS hn S hSf res x.cps.size 0 _ #[] c1 rfl (Nat.zero_le _) hst h1 (ItemsOf.nil _) fun s' acc c hm h2 hacc => ?_
    rw [Moved.eq_with hm]
    refine hR s'.heap s'.toks acc c (fun b o hb e => hm.heap b o (fun z => ?_) (hk b o hb e)) h2 hacc
    rcases List.mem_cons.mp z with e' | z
    · exact hb e'
    · exact absurd (Heap.lt_size e) (by rw [List.mem_singleton.mp z]; exact Nat.lt_irrefl _)
  unfold Builtin.List.listExtendWith
  refine wpAny_bind (wpAny_typeOf (T := "str") (typeIs_str s x t) ?_)
  have h1 : Builtin.List.listSameRef (.ref S) (.str x t) = false := rfl
  simp only [h1, show (Value.type "str" == Value.type "list") = false by decide, show (Value.type "str" == Value.type "tuple") = false by decide, Bool.or_false, Bool.false_eq_true, if_false]
  refine wpAny_bind (wpAny_pyIter_ascii hx ?_)
  have h2 := Heap.get?_push_of_some { cls := .type "str_ascii_iterator", data := .fields #[.str x t, .int 0 0] } hS
  refine wpAny_bind (wpAny_holding (hint_str ?_))
  refine wpAny_ite_split (fun _ => ?_) (fun _ => wpAny_pure ⟨plainId_quiet PySem.F.plain_extend_loop _, key _ c0 _ ⟨_, Heap.get?_push_size _ rfl, rfl, rfl⟩ (fun b o _ e => Heap.get?_push_of_some _ e) h2⟩)
  refine wpAny_bind (wpAny_rule (wpAny_bind ?_))
  show wpAny _ _ (updateSeq S (·.push .none) >>= fun _ => updateSeq S (·.pop)) _ _ _
  refine wpAny_bind (wpAny_updateSeq h2 rfl ?_)
  have h3 := Heap.get?_update_self (Obj.mapSeq (·.push Value.none)) h2 rfl
  refine wpAny_updateSeq (hz := by seq_fits) h3 rfl ?_
  have h4 := Heap.get?_update_self (Obj.mapSeq (·.pop)) h3 rfl
  have oth : ∀ b o, b ≠ S → (s.heap.push { cls := .type "str_ascii_iterator", data := .fields #[.str x t, .int 0 0] }).get? b = some o → (((s.heap.push { cls := .type "str_ascii_iterator", data := .fields #[.str x t, .int 0 0] }).update S (Obj.mapSeq (·.push Value.none))).update S (Obj.mapSeq (·.pop))).get? b = some o := fun b o hb e => (Heap.get?_update_other _ _ (Ne.symm hb)).trans ((Heap.get?_update_other _ _ (Ne.symm hb)).trans e)
  exact wpAny_pure ⟨plainId_quiet PySem.F.plain_extend_loop _, key _ _ _ ⟨_, oth _ _ (Ne.symm nS) (Heap.get?_push_size _ rfl), rfl, rfl⟩ (fun b o hb e => oth b o hb (Heap.get?_push_of_some _ e)) h4⟩
theorem init_str {R : Result → Shared → Prop} (hx : x.cps.all (· < 128) = true) (hh : A.handled = none) (S : Addr) (hS : s.heap.get? S = some { cls := .type "list", data := .seq #[] })
    (hR : ∀ h' tk acc c, (∀ b o, b ≠ S → s.heap.get? b = some o → h'.get? b = some o) → h'.get? S = some { cls := .type "list", dict := none, data := .seq acc c, slots := #[] } → ItemsOf (SignAt x) acc x.cps.size → R (.ok (.ret .none)) { s with heap := h', toks := tk }) (hn : x.cps.size ≤ sizeLine) :
    wpAny (model prog w) A.in1 (Builtin.«list.__init__» ⟨[.ref S, .str x t], []⟩)
      (fun fin s' => match fin with | .done f => R (.ok f) s' | .again c' => c'.quiet = true ∧ codeAny (model prog w) A c' R s') (fun e s' => R (.error e) s') s := by
  show wpAny _ _ (do let old ← Builtin.List.listItems (.ref S); Builtin.List.listUpdate (.ref S) (fun _ => #[]); letGo old.toList.reverse; Builtin.List.listExtendWith (.ref S) (.str x t) .none) _ _ s
  refine wpAny_bind ?_
  unfold Builtin.List.listItems
  refine wpAny_bind (wpAny_seqItems hS rfl (wpAny_pure ?_))
  show wpAny _ _ (updateSeq S (fun _ => #[]) >>= fun _ => letGo (#[] : Array Value).toList.reverse >>= fun _ => Builtin.List.listExtendWith (.ref S) (.str x t) .none) _ _ s
  refine wpAny_bind (wpAny_updateSeq hS rfl ?_)
  have h2 := Heap.get?_update_self (Obj.mapSeq (fun _ => (#[] : Array Value))) hS rfl
  refine wpAny_bind (wpAny_letGo (extend_str hx hh S .none _ h2 (fun h' tk acc c hk h3 hacc => ?_) hn))
  exact hR h' tk acc c (fun b o hb e => hk b o hb ((Heap.get?_update_other _ _ (Ne.symm hb)).trans e)) h3 hacc
theorem call_list_ascii {Q : Value → Shared → Prop} (hx : x.cps.all (· < 128) = true) (hh : A.handled = none) (hn : x.cps.size ≤ sizeLine)
    (hQ : ∀ h' tk acc c, (∀ b o, s.heap.get? b = some o → h'.get? b = some o) → h'.get? s.heap.objs.size = some { cls := .type "list", dict := none, data := .seq acc c, slots := #[] } → ItemsOf (SignAt x) acc x.cps.size → Q (.ref s.heap.objs.size) { s with heap := h', toks := tk }) :
    wpAny (model prog w) A (call (.type "list") [.str x t]) Q E s := by
  refine callType_codes (Q₁ := fun obj s1 => obj = .ref s.heap.objs.size ∧ s1 = { s with heap := s.heap.push { cls := .type "list", data := .seq #[] } }) PySem.F.called_list (PySem.F.typeCall_list_1 _) PySem.F.entry_list_init (code_list_new _ ⟨rfl, rfl⟩) fun obj s1 h1 => ?_
  obtain ⟨rfl, rfl⟩ := h1
  have hS : (s.heap.push { cls := .type "list", data := .seq #[] }).get? s.heap.objs.size = some { cls := .type "list", data := .seq #[] } := Heap.get?_push_size _ rfl
  refine ⟨⟨_, hS, rfl⟩, PySem.F.args_list_init_2 _ _, init_str (A := A.in1) hx (by simpa using hh) _ hS (fun h' tk acc c hk h2 hacc => ⟨rfl, ?_⟩) hn⟩
  exact hQ h' tk acc c (fun b o e => hk b o (Nat.ne_of_lt (Heap.lt_size e)) (Heap.get?_push_of_some _ e)) h2 hacc
end
section
variable {X : Cx}
def signs (x : Str) : List V := x.cps.toList.map fun c => V.str ⟨#[c]⟩
theorem vals_of_get : ∀ {xs : List V} {us : List Value}, xs.length = us.length → (∀ (j : Nat) (v : Value), us[j]? = some v → ∃ x, xs[j]? = some x ∧ RelV x v) → Vals xs us
  | [], [], _, _ => .nil
  | x :: xs, u :: us, hl, h => by
    obtain ⟨y, h1, h2⟩ := h 0 u rfl
    cases h1
    exact .cons h2 (vals_of_get (Nat.succ.inj hl) fun j v e => h (j + 1) v (by simpa using e))
theorem call_listT (hc : X.calm = true) : CallR X (.type "list") (fun xs H Q => ∃ z : Str, xs = [.str z] ∧ z.cps.all (· < 128) = true ∧ z.cps.size ≤ sizeLine ∧ ∀ p, H p = none → Q (.ref p) (upd H p (.lst (signs z)))) := by
  intro pins s σ H xs us Q I r h
  obtain ⟨z, rfl, hx, hn, q⟩ := h
  obtain ⟨u, rfl, rx⟩ := vals1 r
  obtain ⟨t, rfl⟩ := rx
  refine call_list_ascii hx (I.ok.hd hc) hn fun h' tk acc c hk hD hacc => ?_
  have rv : Vals (signs z) acc.toList := by
    have hl : (signs z).length = acc.toList.length := by
      unfold signs
      rw [List.length_map, Array.length_toList, Array.length_toList, hacc.1]
    refine vals_of_get hl fun j v e => ?_
    rw [Array.getElem?_toList] at e
    obtain ⟨c, u, h1, rfl⟩ := hacc.2 j v e
    refine ⟨.str ⟨#[c]⟩, ?_, ⟨u, rfl⟩⟩
    unfold signs
    rw [List.getElem?_map, Array.getElem?_toList, h1]
    rfl
  exact ⟨.ref s.heap.objs.size, upd H s.heap.objs.size (.lst (signs z)), I.laid (t' := tk) hk (Nat.le_refl _) ⟨by unfold signs; rw [List.length_map, Array.length_toList]; exact hn, acc.toList, c, rv, by rw [Array.toArray_toList]; exact hD⟩, rfl, q _ (I.hok.fresh (Nat.le_refl _))⟩
end
end K27
end
section
set_option Elab.async false
set_option linter.all false
set_option maxRecDepth 100000
/-! A logic of plain data over the hand layer: in an environment of data an expression gives a datum, a block goes on or gives its answer. -/
namespace K27
open PySem PySem.Spec PyProof.Rows L2
abbrev PD := PyData
theorem TF.mono {H H' : Hp} {a : Addr} {xs : List V} (e : Same H H') (h : TF H a xs) : TF H' a xs := by
  obtain ⟨o, h, d⟩ := h
  exact ⟨o, e _ _ h, d⟩
/-! ### a value holds a datum: what is tracked, no locked or written things -/
mutual
inductive Dv (H : Hp) : V → PD → Prop
  | non : Dv H .non .none
  | bl (b : Bool) : Dv H (.bl b) (.bool b)
  | int (i : Int) : Dv H (.int i) (.int i)
  | str (x : Str) : Dv H (.str x) (.str x)
  | lst {a : Addr} {xs : List V} {ds : List PD} : H a = some (.lst xs) → DvAll H xs ds → Dv H (.ref a) (.list ds)
  | tup {a : Addr} {xs : List V} {ds : List PD} : TF H a xs → DvAll H xs ds → Dv H (.ref a) (.tuple ds)
  | dct {a : Addr} {kvs : List (Int × Int)} {ds : List (PD × PD)} : H a = some (.dK (kvs.map fun x => (Sum.inl x.1, V.int x.2))) → ds = kvs.map (fun x => (PyData.int x.1, PyData.int x.2)) → Dv H (.ref a) (.dict ds)
inductive DvAll (H : Hp) : List V → List PD → Prop
  | nil : DvAll H [] []
  | cons {v : V} {vs : List V} {d : PD} {ds : List PD} : Dv H v d → DvAll H vs ds → DvAll H (v :: vs) (d :: ds)
end
section
variable {H H' : Hp} {K : PySem.W.Frag}
mutual
theorem Dv.mono (e : Same H H') : ∀ {v : V} {d : PD}, Dv H v d → Dv H' v d
  | _, _, .non => .non
  | _, _, .bl b => .bl b
  | _, _, .int i => .int i
  | _, _, .str x => .str x
  | _, _, .lst h a => .lst (e _ _ h) (DvAll.mono e a)
  | _, _, .tup h a => .tup (h.mono e) (DvAll.mono e a)
  | _, _, .dct h a => .dct (e _ _ h) a
theorem DvAll.mono (e : Same H H') : ∀ {vs : List V} {ds : List PD}, DvAll H vs ds → DvAll H' vs ds
  | _, _, .nil => .nil
  | _, _, .cons h a => .cons (Dv.mono e h) (DvAll.mono e a)
end
/-! no dicts within -/
mutual
def noD : PD → Bool
  | .dict _ => false
  | .list ds => noDAll ds
  | .tuple ds => noDAll ds
  | .none => true
  | .bool _ => true
  | .int _ => true
  | .str _ => true
def noDAll : List PD → Bool
  | [] => true
  | d :: ds => noD d && noDAll ds
end
mutual
theorem Dv.dp : ∀ {v : V} {d : PD}, Dv H v d → noD d = true → Dp K H v d
  | _, _, .non, _ => .non
  | _, _, .bl b, _ => .bl b
  | _, _, .int i, _ => .int i
  | _, _, .str x, _ => .str x
  | _, _, .lst h a, z => .lst (SqL.of h) (DvAll.dp a (by simpa [noD] using z))
  | _, _, .tup h a, z => .tup h.seq (DvAll.dp a (by simpa [noD] using z))
  | _, _, .dct h a, z => by simp [noD] at z
theorem DvAll.dp : ∀ {vs : List V} {ds : List PD}, DvAll H vs ds → noDAll ds = true → DpAll K H vs ds
  | _, _, .nil, _ => .nil
  | _, _, .cons h a, z => by
    simp only [noDAll, Bool.and_eq_true] at z
    exact .cons (Dv.dp h z.1) (DvAll.dp a z.2)
end
/-! no lists within -/
mutual
def noL : PD → Bool
  | .list _ => false
  | .dict _ => false
  | .tuple ds => noLAll ds
  | .none => true
  | .bool _ => true
  | .int _ => true
  | .str _ => true
def noLAll : List PD → Bool
  | [] => true
  | d :: ds => noL d && noLAll ds
end
/-- what was tracked and is no list stands -/
def Imm (H H' : Hp) : Prop := ∀ a o xs, H a = some (.frz o (.tup xs)) → H' a = some (.frz o (.tup xs))
theorem TF.imm {H H' : Hp} {a : Addr} {xs : List V} (e : Imm H H') (h : TF H a xs) : TF H' a xs := by
  obtain ⟨o, h, d⟩ := h
  exact ⟨o, e _ _ _ h, d⟩
mutual
theorem Dv.imm (e : Imm H H') : ∀ {v : V} {d : PD}, Dv H v d → noL d = true → Dv H' v d
  | _, _, .non, _ => .non
  | _, _, .bl b, _ => .bl b
  | _, _, .int i, _ => .int i
  | _, _, .str x, _ => .str x
  | _, _, .lst h a, z => by simp [noL] at z
  | _, _, .dct h a, z => by simp [noL] at z
  | _, _, .tup h a, z => .tup (h.imm e) (DvAll.imm e a (by simpa [noL] using z))
theorem DvAll.imm (e : Imm H H') : ∀ {vs : List V} {ds : List PD}, DvAll H vs ds → noLAll ds = true → DvAll H' vs ds
  | _, _, .nil, _ => .nil
  | _, _, .cons h a, z => by
    simp only [noLAll, Bool.and_eq_true] at z
    exact .cons (Dv.imm e h z.1) (DvAll.imm e a z.2)
end
theorem Same.imm (e : Same H H') : Imm H H' := fun a o xs h => e a _ h
theorem Imm.refl (H : Hp) : Imm H H := fun _ _ _ h => h
theorem Imm.trans {H1 H2 H3 : Hp} (a : Imm H1 H2) (b : Imm H2 H3) : Imm H1 H3 := fun x o xs h => b x o xs (a x o xs h)
theorem Imm.mut {l : Addr} {xs : List V} {o : HO} (h : H l = some (.lst xs)) : Imm H (upd H l o) := fun a p ys e => by
  rw [upd_ne (ne_of e h (by intro z; cases z))]
  exact e
theorem Same.new {p : Addr} {o : HO} (h : H p = Option.none) : Same H (upd H p o) := fun b x e => by
  rw [upd_ne (ne_of_none e h)]
  exact e
theorem DvAll.length {vs : List V} {ds : List PD} : ∀ (_ : DvAll H vs ds), vs.length = ds.length
  | .nil => rfl
  | .cons _ a => congrArg (· + 1) (DvAll.length a)
theorem DvAll.get : ∀ {vs : List V} {ds : List PD} {i : Nat} {d : PD}, DvAll H vs ds → ds[i]? = some d → ∃ v, vs[i]? = some v ∧ Dv H v d
  | _, _, _, _, .nil, e => by simp at e
  | _, _, 0, _, .cons h _, e => ⟨_, rfl, by simp at e; exact e ▸ h⟩
  | _, _, i + 1, _, .cons _ a, e => by
    obtain ⟨v, h1, h2⟩ := DvAll.get (i := i) a (by simpa using e)
    exact ⟨v, by simpa using h1, h2⟩
theorem DvAll.get' {vs : List V} {ds : List PD} {i : Nat} {v : V} (a : DvAll H vs ds) (e : vs[i]? = some v) : ∃ d, ds[i]? = some d ∧ Dv H v d := by
  have h1 := a.length
  obtain ⟨h2, h3⟩ := List.getElem?_eq_some_iff.mp e
  have h4 : i < ds.length := by omega
  obtain ⟨w, h5, h6⟩ := a.get (List.getElem?_eq_getElem h4)
  rw [e] at h5
  cases h5
  exact ⟨_, List.getElem?_eq_getElem h4, h6⟩
theorem DvAll.append {vs vs' : List V} {ds ds' : List PD} : ∀ (_ : DvAll H vs ds) (_ : DvAll H vs' ds'), DvAll H (vs ++ vs') (ds ++ ds')
  | .nil, b => b
  | .cons h a, b => .cons h (DvAll.append a b)
theorem DvAll.take : ∀ {vs : List V} {ds : List PD} (n : Nat), DvAll H vs ds → DvAll H (vs.take n) (ds.take n)
  | _, _, 0, _ => .nil
  | _, _, _ + 1, .nil => .nil
  | _, _, n + 1, .cons h a => .cons h (DvAll.take n a)
theorem DvAll.drop : ∀ {vs : List V} {ds : List PD} (n : Nat), DvAll H vs ds → DvAll H (vs.drop n) (ds.drop n)
  | _, _, 0, a => a
  | _, _, _ + 1, .nil => .nil
  | _, _, n + 1, .cons _ a => DvAll.drop n a
theorem DvAll.one {v : V} {d : PD} (h : Dv H v d) : DvAll H [v] [d] := .cons h .nil
theorem DvAll.ints : ∀ {vs : List V} {ns : List Int}, DvAll H vs (ns.map .int) → vs = ns.map V.int
  | _, [], .nil => rfl
  | _, n :: ns, .cons h a => by
    cases h
    rw [DvAll.ints a]
    rfl
theorem DvAll.of_ints : ∀ (ns : List Int), DvAll H (ns.map V.int) (ns.map .int)
  | [] => .nil
  | n :: ns => .cons (.int n) (DvAll.of_ints ns)
theorem DvAll.bls : ∀ {vs : List V} {bs : List Bool}, DvAll H vs (bs.map .bool) → vs = bs.map V.bl
  | _, [], .nil => rfl
  | _, n :: ns, .cons h a => by
    cases h
    rw [DvAll.bls a]
    rfl
theorem DvAll.strs : ∀ {vs : List V} {xs : List Str}, DvAll H vs (xs.map .str) → vs = xs.map V.str
  | _, [], .nil => rfl
  | _, n :: ns, .cons h a => by
    cases h
    rw [DvAll.strs a]
    rfl
theorem Dv.of_tup {v : V} {ds : List PD} (h : Dv H v (.tuple ds)) : ∃ a xs, v = .ref a ∧ TF H a xs ∧ DvAll H xs ds := by
  cases h with
  | tup h a => exact ⟨_, _, rfl, h, a⟩
theorem Dv.of_lst {v : V} {ds : List PD} (h : Dv H v (.list ds)) : ∃ a xs, v = .ref a ∧ H a = some (.lst xs) ∧ DvAll H xs ds := by
  cases h with
  | lst h a => exact ⟨_, _, rfl, h, a⟩
theorem Dv.of_int {v : V} {i : Int} (h : Dv H v (.int i)) : v = .int i := by cases h; rfl
theorem Dv.of_bl {v : V} {i : Bool} (h : Dv H v (.bool i)) : v = .bl i := by cases h; rfl
theorem Dv.of_str {v : V} {i : Str} (h : Dv H v (.str i)) : v = .str i := by cases h; rfl
theorem Dv.of_non {v : V} (h : Dv H v .none) : v = .non := by cases h; rfl
end

/-! ### environments -/
theorem DvAll.newT {H : Hp} {xs : List V} {ds : List PD} {Q : VK} (h : DvAll H xs ds) (q : ∀ v H', Same H H' → Dv H' v (.tuple ds) → Q v H') : NewT xs H Q := fun p o hp ho =>
  q _ _ (Same.new hp) (.tup ⟨o, upd_same, ho⟩ (h.mono (Same.new hp)))
abbrev En := List (Option PD)
structure Sg (H : Hp) (σ : L2.St) (ρ : En) : Prop where
  len : σ.length = ρ.length
  at_ : ∀ (i : Nat) (d : PD), ρ[i]? = some (some d) → ∃ v, σ[i]? = some (some v) ∧ Dv H v d
section
variable {H H' : Hp} {σ : L2.St} {ρ ρ' : En}
theorem Sg.mono (s : Sg H σ ρ) (e : Same H H') : Sg H' σ ρ := ⟨s.len, fun i d h => by
  obtain ⟨v, h1, h2⟩ := s.at_ i d h
  exact ⟨v, h1, h2.mono e⟩⟩
theorem Sg.set (s : Sg H σ ρ) {v : V} {d : PD} (i : Nat) (h : Dv H v d) : Sg H (σ.set i (some v)) (ρ.set i (some d)) := by
  refine ⟨by rw [List.length_set, List.length_set]; exact s.len, fun j e hj => ?_⟩
  by_cases hi : i = j
  · subst hi
    by_cases hl : i < ρ.length
    · rw [List.getElem?_set_self hl] at hj
      cases hj
      exact ⟨v, List.getElem?_set_self (by rw [s.len]; exact hl), h⟩
    · rw [List.getElem?_eq_none (by simpa using hl)] at hj
      cases hj
  · rw [List.getElem?_set_ne hi] at hj
    rw [List.getElem?_set_ne hi]
    exact s.at_ j e hj
/-- less known -/
structure Le (ρ' ρ : En) : Prop where
  len : ρ'.length = ρ.length
  at_ : ∀ (i : Nat) (d : PD), ρ'[i]? = some (some d) → ρ[i]? = some (some d)
theorem Le.refl (ρ : En) : Le ρ ρ := ⟨rfl, fun _ _ h => h⟩
theorem Sg.le (s : Sg H σ ρ) (h : Le ρ' ρ) : Sg H σ ρ' := ⟨s.len.trans h.len.symm, fun i d e => s.at_ i d (h.at_ i d e)⟩
def leB : En → En → Prop
  | [], [] => True
  | none :: r, _ :: s => leB r s
  | some d :: r, e :: s => e = some d ∧ leB r s
  | _, _ => False
theorem le_of : ∀ {ρ' ρ : En}, leB ρ' ρ → Le ρ' ρ
  | [], [], _ => Le.refl _
  | none :: r, x :: s, h => by
    have q := le_of (ρ' := r) (ρ := s) h
    refine ⟨congrArg (· + 1) q.len, fun i d e => ?_⟩
    cases i with
    | zero => simp at e
    | succ i => simpa using q.at_ i d (by simpa using e)
  | some d :: r, x :: s, h => by
    obtain ⟨h1, h2⟩ : x = some d ∧ leB r s := h
    have q := le_of (ρ' := r) (ρ := s) h2
    refine ⟨congrArg (· + 1) q.len, fun i e f => ?_⟩
    cases i with
    | zero => rw [h1]; exact f
    | succ i => simpa using q.at_ i e (by simpa using f)
def wipeE (ρ : En) : List Nat → En
  | [] => ρ
  | v :: vs => (wipeE ρ vs).set v none
theorem Sg.unset (s : Sg H σ ρ) (i : Nat) : Sg H (σ.set i none) (ρ.set i none) := by
  refine ⟨by rw [List.length_set, List.length_set]; exact s.len, fun j e hj => ?_⟩
  by_cases hi : i = j
  · subst hi
    by_cases hl : i < ρ.length
    · rw [List.getElem?_set_self hl] at hj
      cases hj
    · rw [List.getElem?_eq_none (by simpa using hl)] at hj
      cases hj
  · rw [List.getElem?_set_ne hi] at hj
    rw [List.getElem?_set_ne hi]
    exact s.at_ j e hj
theorem Sg.wipe (s : Sg H σ ρ) : ∀ vs : List Nat, Sg H (wipe σ vs) (wipeE ρ vs)
  | [] => s
  | v :: vs => (Sg.wipe s vs).unset v
theorem wipe_get (σ : L2.St) : ∀ (vs : List Nat) (i : Nat), (wipe σ vs)[i]? = if i ∈ vs ∧ i < σ.length then some none else σ[i]?
  | [], i => by
    rw [if_neg (by simp)]
    rfl
  | v :: vs, i => by
    show ((wipe σ vs).set v none)[i]? = _
    by_cases h : v = i
    · subst h
      by_cases hl : v < σ.length
      · rw [List.getElem?_set_self (by rw [wipe_length]; exact hl), if_pos ⟨List.mem_cons_self .., hl⟩]
      · rw [if_neg (fun z => hl z.2), List.getElem?_eq_none (by rw [List.length_set, wipe_length]; omega), List.getElem?_eq_none (by omega)]
    · rw [List.getElem?_set_ne h, wipe_get σ vs i]
      by_cases hm : i ∈ vs ∧ i < σ.length
      · rw [if_pos hm, if_pos ⟨List.mem_cons_of_mem _ hm.1, hm.2⟩]
      · rw [if_neg hm, if_neg]
        intro z
        rcases List.mem_cons.mp z.1 with e | e
        · exact h e.symm
        · exact hm ⟨e, z.2⟩
theorem wipe_of {σ σ' : L2.St} {vs : List Nat} (hl : σ'.length = σ.length) (h : ∀ i, i ∉ vs → σ'[i]? = σ[i]?) : L2.wipe σ' vs = L2.wipe σ vs := by
  apply List.ext_getElem?
  intro i
  rw [wipe_get, wipe_get]
  by_cases hi : i ∈ vs
  · by_cases hz : i < σ.length
    · rw [if_pos ⟨hi, by omega⟩, if_pos ⟨hi, hz⟩]
    · rw [if_neg (fun z => by omega), if_neg (fun z => hz z.2), List.getElem?_eq_none (by omega), List.getElem?_eq_none (by omega)]
  · rw [if_neg (fun z => hi z.1), if_neg (fun z => hi z.1)]
    exact h i hi
theorem wipe_wipe (σ : L2.St) (vs : List Nat) : L2.wipe (L2.wipe σ vs) vs = L2.wipe σ vs := wipe_of (wipe_length σ vs) fun i hi => by
  rw [wipe_get, if_neg (fun z => hi z.1)]
end

/-! ### what gives what -/
def Ed (ρ : En) (te : TE) (d : PD) : Prop := ∀ (σ : L2.St) (H : Hp) (Q : VK), Sg H σ ρ → (∀ v H', Same H H' → Dv H' v d → Q v H') → te σ H Q
def EdA (ρ : En) (ta : TA) (ds : List PD) : Prop := ∀ (σ : L2.St) (H : Hp) (Q : List V → Hp → Prop), Sg H σ ρ → (∀ vs H', Same H H' → DvAll H' vs ds → Q vs H') → ta σ H Q
def Et (ρ : En) (tt : TT) (b : Bool) : Prop := ∀ (σ : L2.St) (H : Hp) (Q : Bool → Hp → Prop), Sg H σ ρ → (∀ H', Same H H' → Q b H') → tt σ H Q
def EdO (ρ : En) (to : TO) (o : Option Int) : Prop := ∀ (σ : L2.St) (H : Hp) (Q : Option Int → Hp → Prop), Sg H σ ρ → (∀ H', Same H H' → Q o H') → to σ H Q
/-- a target: what it makes of the environment, at which slots -/
def Eg (ρ : En) (g : TG) (d : PD) (js : List Nat) (ρ' : En) : Prop := ∀ (v : V) (σ : L2.St) (H : Hp) (Q : L2.St → Hp → Prop), Sg H σ ρ → Dv H v d → (∀ σ', Sg H σ' ρ' → σ'.length = σ.length → (∀ i, i ∉ js → σ'[i]? = σ[i]?) → Q σ' H) → g v σ H Q
def EgA (ρ : En) (g : TGs) (ds : List PD) (js : List Nat) (ρ' : En) : Prop := ∀ (vs : List V) (σ : L2.St) (H : Hp) (Q : L2.St → Hp → Prop), Sg H σ ρ → DvAll H vs ds → (∀ σ', Sg H σ' ρ' → σ'.length = σ.length → (∀ i, i ∉ js → σ'[i]? = σ[i]?) → Q σ' H) → g vs σ H Q
/-- a walk that gives these data -/
structure Wk (J : It) (H1 : Hp) (ds : List PD) : Prop where
  goes : ∀ i H2, Same H1 H2 → i < ds.length → J.go i H2
  stops : ∀ H2, Same H1 H2 → J.stop ds.length H2
  yields : ∀ i H2 x H3, Same H1 H2 → i < ds.length → J.yld i H2 x H3 → Same H2 H3 ∧ ∃ d, ds[i]? = some d ∧ Dv H3 x d
def Ei (ρ : En) (wi : TI) (ds : List PD) : Prop := ∀ (σ : L2.St) (H : Hp) (R : It → Hp → Prop), Sg H σ ρ → (∀ J H1, Same H H1 → Wk J H1 ds → R J H1) → wi σ H R
/-- a block goes on in an environment, or gives its answer -/
inductive Oc where
  | go (ρ : En)
  | rt (d : PD)
def Oc.to (o : Oc) (D : Ends) (H : Hp) : Prop := match o with
  | .go ρ => ∀ σ' H', Same H H' → Sg H' σ' ρ → D.nx σ' H'
  | .rt d => ∀ v H', Same H H' → Dv H' v d → D.rt v H'
def Eo (ρ : En) (t : TS) (o : Oc) : Prop := ∀ (D : Ends) (σ : L2.St) (H : Hp), Sg H σ ρ → o.to D H → t D σ H
theorem Oc.to_mono {o : Oc} {D : Ends} {H H' : Hp} (h : o.to D H) (e : Same H H') : o.to D H' := by
  cases o with
  | go ρ => exact fun σ' H2 e2 s => h σ' H2 (e.trans e2) s
  | rt d => exact fun v H2 e2 s => h v H2 (e.trans e2) s
section
variable {ρ ρ' ρ1 ρ2 : En} {ta tb te tc : TE} {K : PySem.W.Frag}
theorem Ed.is {d e : PD} (h : Ed ρ te d) (q : d = e) : Ed ρ te e := q ▸ h
theorem Et.is {b c : Bool} {t : TT} (h : Et ρ t b) (q : b = c) : Et ρ t c := q ▸ h
theorem Eo.is {t : TS} {o p : Oc} (h : Eo ρ t o) (q : o = p) : Eo ρ t p := q ▸ h
theorem Ei.is {t : TI} {o p : List PD} (h : Ei ρ t o) (q : o = p) : Ei ρ t p := q ▸ h
theorem Ed.weak {d : PD} (h : Ed ρ' te d) (l : Le ρ' ρ) : Ed ρ te d := fun σ H Q s q => h σ H Q (s.le l) q
theorem ed_var {i : Nat} {d : PD} (h : ρ[i]? = some (some d)) : Ed ρ (tVar i) d := fun σ H Q s q => by
  obtain ⟨v, h1, h2⟩ := s.at_ i d h
  exact ⟨v, h1, q v H (Same.refl H) h2⟩
theorem ed_int {i : Int} : Ed ρ (tC (.int i)) (.int i) := fun σ H Q s q => q _ H (Same.refl H) (.int i)
theorem ed_str {i : Str} : Ed ρ (tC (.str i)) (.str i) := fun σ H Q s q => q _ H (Same.refl H) (.str i)
theorem ed_bl {i : Bool} : Ed ρ (tC (.bl i)) (.bool i) := fun σ H Q s q => q _ H (Same.refl H) (.bl i)
theorem ed_non : Ed ρ (tC .non) .none := fun σ H Q s q => q _ H (Same.refl H) .non
/-- two operands, then a rule by values -/
theorem ed_op {r : R2} {d e f : PD} (ha : Ed ρ ta d) (hb : Ed ρ tb e) (hr : ∀ x y H Q, Dv H x d → Dv H y e → (∀ v H', Same H H' → Dv H' v f → Q v H') → r x y H Q) : Ed ρ (tOp r ta tb) f := fun σ H Q s q =>
  ha σ H _ s fun x H1 e1 h1 => hb σ H1 _ (s.mono e1) fun y H2 e2 h2 => hr x y H2 Q (h1.mono e2) h2 fun v H3 e3 h3 => q v H3 ((e1.trans e2).trans e3) h3
theorem ed_rI0 {g : Int → Int → V} {i j : Int} {d : PD} (ha : Ed ρ ta (.int i)) (hb : Ed ρ tb (.int j)) (hd : ∀ H, Dv H (g i j) d) : Ed ρ (tOp (rI0 g) ta tb) d := ed_op ha hb fun x y H Q hx hy q => by
  cases hx
  cases hy
  exact ⟨i, j, rfl, rfl, q _ H (Same.refl H) (hd H)⟩
theorem ed_rI {C : Int → Int → Prop} {g : Int → Int → V} {i j : Int} {d : PD} (ha : Ed ρ ta (.int i)) (hb : Ed ρ tb (.int j)) (hc : C i j) (hd : ∀ H, Dv H (g i j) d) : Ed ρ (tOp (rI C g) ta tb) d := ed_op ha hb fun x y H Q hx hy q => by
  cases hx
  cases hy
  exact ⟨i, j, rfl, rfl, hc, q _ H (Same.refl H) (hd H)⟩
theorem ed_add {i j : Int} (ha : Ed ρ ta (.int i)) (hb : Ed ρ tb (.int j)) : Ed ρ (tOp (rI0 fun i j => .int (i + j)) ta tb) (.int (i + j)) := ed_rI0 ha hb fun _ => .int _
theorem ed_sub {i j : Int} (ha : Ed ρ ta (.int i)) (hb : Ed ρ tb (.int j)) : Ed ρ (tOp (rI0 fun i j => .int (i - j)) ta tb) (.int (i - j)) := ed_rI0 ha hb fun _ => .int _
theorem ed_mul {i j : Int} (ha : Ed ρ ta (.int i)) (hb : Ed ρ tb (.int j)) (hc : CMul i j) : Ed ρ (tOp (rI CMul fun i j => .int (i * j)) ta tb) (.int (i * j)) := ed_rI ha hb hc fun _ => .int _
theorem ed_fdiv {i j : Int} (ha : Ed ρ ta (.int i)) (hb : Ed ρ tb (.int j)) (hc : CDiv i j) : Ed ρ (tOp (rI CDiv fun i j => .int (i / j)) ta tb) (.int (i / j)) := ed_rI ha hb hc fun _ => .int _
theorem ed_mod {i j : Int} (ha : Ed ρ ta (.int i)) (hb : Ed ρ tb (.int j)) (hc : 0 < j) : Ed ρ (tOp (rI (fun _ j => 0 < j) fun i j => .int (i % j)) ta tb) (.int (i % j)) := ed_rI ha hb hc fun _ => .int _
theorem ed_lt {i j : Int} (ha : Ed ρ ta (.int i)) (hb : Ed ρ tb (.int j)) : Ed ρ (tOp (rI0 fun i j => .bl (decide (i < j))) ta tb) (.bool (decide (i < j))) := ed_rI0 ha hb fun _ => .bl _
theorem ed_le {i j : Int} (ha : Ed ρ ta (.int i)) (hb : Ed ρ tb (.int j)) : Ed ρ (tOp (rI0 fun i j => .bl (decide (i ≤ j))) ta tb) (.bool (decide (i ≤ j))) := ed_rI0 ha hb fun _ => .bl _
theorem ed_gt {i j : Int} (ha : Ed ρ ta (.int i)) (hb : Ed ρ tb (.int j)) : Ed ρ (tOp (rI0 fun i j => .bl (decide (j < i))) ta tb) (.bool (decide (j < i))) := ed_rI0 ha hb fun _ => .bl _
theorem ed_ge {i j : Int} (ha : Ed ρ ta (.int i)) (hb : Ed ρ tb (.int j)) : Ed ρ (tOp (rI0 fun i j => .bl (decide (j ≤ i))) ta tb) (.bool (decide (j ≤ i))) := ed_rI0 ha hb fun _ => .bl _
theorem ed_eqI {i j : Int} (ha : Ed ρ ta (.int i)) (hb : Ed ρ tb (.int j)) : Ed ρ (tOp rEq ta tb) (.bool (decide (i = j))) := ed_op ha hb fun x y H Q hx hy q => by
  cases hx
  cases hy
  refine ⟨rfl, q _ H (Same.refl H) ?_⟩
  rw [show decide (V.int i = V.int j) = decide (i = j) by simp]
  exact .bl _
theorem ed_eqS {i j : Str} (ha : Ed ρ ta (.str i)) (hb : Ed ρ tb (.str j)) : Ed ρ (tOp rEq ta tb) (.bool (decide (i = j))) := ed_op ha hb fun x y H Q hx hy q => by
  cases hx
  cases hy
  refine ⟨rfl, q _ H (Same.refl H) ?_⟩
  rw [show decide (V.str i = V.str j) = decide (i = j) by simp]
  exact .bl _
theorem ed_neS {i j : Str} (ha : Ed ρ ta (.str i)) (hb : Ed ρ tb (.str j)) : Ed ρ (tOp rNe ta tb) (.bool (!decide (i = j))) := ed_op ha hb fun x y H Q hx hy q => by
  cases hx
  cases hy
  refine ⟨rfl, q _ H (Same.refl H) ?_⟩
  rw [show decide (V.str i = V.str j) = decide (i = j) by simp]
  exact .bl _
theorem ed_neB {i j : Bool} (ha : Ed ρ ta (.bool i)) (hb : Ed ρ tb (.bool j)) : Ed ρ (tOp rNe ta tb) (.bool (!decide (i = j))) := ed_op ha hb fun x y H Q hx hy q => by
  cases hx
  cases hy
  refine ⟨rfl, q _ H (Same.refl H) ?_⟩
  rw [show decide (V.bl i = V.bl j) = decide (i = j) by simp]
  exact .bl _
theorem ed_eqD {d e : PD} (ha : Ed ρ ta d) (hb : Ed ρ tb e) (h1 : SeqAt.shaped d = true) (h2 : SeqAt.shaped e = true) (n1 : noD d = true) (n2 : noD e = true) : Ed ρ (tOp (rEqD K) ta tb) (.bool (PyData.eqv d e)) := ed_op ha hb fun x y H Q hx hy q =>
  ⟨d, e, hx.dp n1, hy.dp n2, h1, h2, q _ H (Same.refl H) (.bl _)⟩
theorem ed_neD {d e : PD} (ha : Ed ρ ta d) (hb : Ed ρ tb e) (h1 : SeqAt.shaped d = true) (h2 : SeqAt.shaped e = true) (n1 : noD d = true) (n2 : noD e = true) : Ed ρ (tOp (rNeD K) ta tb) (.bool (!PyData.eqv d e)) := ed_op ha hb fun x y H Q hx hy q =>
  ⟨d, e, hx.dp n1, hy.dp n2, h1, h2, q _ H (Same.refl H) (.bl _)⟩
def isNone : PD → Bool
  | .none => true
  | _ => false
theorem Dv.isN {H : Hp} {v : V} {d : PD} (h : Dv H v d) : decide (v = .non) = isNone d := by
  cases h <;> first | rfl | exact decide_eq_false (fun e => nomatch e)
theorem ed_isN {d : PD} (ha : Ed ρ ta d) : Ed ρ (tOp (fun x y H Q => y = .non ∧ Q (.bl (decide (x = .non))) H) ta (tC .non)) (.bool (isNone d)) := ed_op ha ed_non fun x y H Q hx hy q => by
  cases hy
  exact ⟨rfl, by rw [hx.isN]; exact q _ H (Same.refl H) (.bl _)⟩
theorem ed_notN {d : PD} (ha : Ed ρ ta d) : Ed ρ (tOp (fun x y H Q => y = .non ∧ Q (.bl (!decide (x = .non))) H) ta (tC .non)) (.bool (!isNone d)) := ed_op ha ed_non fun x y H Q hx hy q => by
  cases hy
  exact ⟨rfl, by rw [hx.isN]; exact q _ H (Same.refl H) (.bl _)⟩
theorem DvAll.atI {H : Hp} {vs : List V} {ds : List PD} {i : Int} {d : PD} (a : DvAll H vs ds) (e : atI ds i = some d) : ∃ v, atI vs i = some v ∧ Dv H v d := by
  unfold L2.atI at e ⊢
  rw [a.length]
  cases h : ixN ds.length i with
  | none => rw [h] at e; cases e
  | some j =>
    rw [h] at e
    exact a.get (i := j) e
theorem ed_ixT {ds : List PD} {i : Int} {d : PD} (ha : Ed ρ ta (.tuple ds)) (hb : Ed ρ tb (.int i)) (hd : atI ds i = some d) : Ed ρ (tOp (rIxT K) ta tb) d := ed_op ha hb fun x y H Q hx hy q => by
  obtain ⟨a, xs, rfl, h1, h2⟩ := hx.of_tup
  cases hy
  obtain ⟨v, h3, h4⟩ := h2.atI hd
  exact ⟨a, xs, i, v, rfl, rfl, h1.seq, h3, q v H (Same.refl H) h4⟩
theorem ed_ixL {ds : List PD} {i : Int} {d : PD} (ha : Ed ρ ta (.list ds)) (hb : Ed ρ tb (.int i)) (hd : atI ds i = some d) : Ed ρ (tOp (rIxL K) ta tb) d := ed_op ha hb fun x y H Q hx hy q => by
  obtain ⟨a, xs, rfl, h1, h2⟩ := hx.of_lst
  cases hy
  obtain ⟨v, h3, h4⟩ := h2.atI hd
  exact ⟨a, xs, i, v, rfl, rfl, SqL.of h1, h3, q v H (Same.refl H) h4⟩
/-! arguments, displays -/
theorem ea_nil : EdA ρ tNil [] := fun σ H Q s q => q [] H (Same.refl H) .nil
theorem ea_cons {t : TA} {d : PD} {ds : List PD} (h : Ed ρ te d) (hr : EdA ρ t ds) : EdA ρ (tCons te t) (d :: ds) := fun σ H Q s q =>
  h σ H _ s fun v H1 e1 h1 => hr σ H1 _ (s.mono e1) fun vs H2 e2 h2 => q _ H2 (e1.trans e2) (.cons (h1.mono e2) h2)
theorem sizes {n : Nat} (h : n ≤ 1000000) : n ≤ sizeLine := Nat.le_trans h (by decide)
theorem ed_tup {t : TA} {ds : List PD} (h : EdA ρ t ds) (hz : ds.length ≤ 1000000) : Ed ρ (tTupF t) (.tuple ds) := fun σ H Q s q =>
  h σ H _ s fun vs H1 e1 h1 => ⟨by rw [h1.length]; exact sizes hz, h1.newT fun v H2 e2 h2 => q v H2 (e1.trans e2) h2⟩
theorem ed_lst {t : TA} {ds : List PD} (h : EdA ρ t ds) (hz : ds.length ≤ 1000000) : Ed ρ (tLst t) (.list ds) := fun σ H Q s q =>
  h σ H _ s fun vs H1 e1 h1 => ⟨by rw [h1.length]; exact sizes hz, fun p hp => q _ _ (e1.trans (Same.new hp)) (.lst upd_same (h1.mono (Same.new hp)))⟩
/-- a call by values -/
theorem ed_cb {r : List V → Hp → VK → Prop} {t : TA} {ds : List PD} {d : PD} (h : EdA ρ t ds) (hr : ∀ vs H Q, DvAll H vs ds → (∀ v H', Same H H' → Dv H' v d → Q v H') → r vs H Q) : Ed ρ (tCB r t) d := fun σ H Q s q =>
  h σ H _ s fun vs H1 e1 h1 => hr vs H1 Q h1 fun v H2 e2 h2 => q v H2 (e1.trans e2) h2
theorem ed_cb1 {r : List V → Hp → VK → Prop} {e d : PD} (h : Ed ρ te e) (hr : ∀ v H Q, Dv H v e → (∀ v H', Same H H' → Dv H' v d → Q v H') → r [v] H Q) : Ed ρ (tCB r (tCons te tNil)) d := ed_cb (ea_cons h ea_nil) fun vs H Q a q => by
  cases a with
  | cons h1 h2 =>
    cases h2
    exact hr _ H Q h1 q
theorem ed_cb2 {r : List V → Hp → VK → Prop} {e f d : PD} (h : Ed ρ ta e) (h' : Ed ρ tb f) (hr : ∀ v w H Q, Dv H v e → Dv H w f → (∀ v H', Same H H' → Dv H' v d → Q v H') → r [v, w] H Q) : Ed ρ (tCB r (tCons ta (tCons tb tNil))) d := ed_cb (ea_cons h (ea_cons h' ea_nil)) fun vs H Q a q => by
  cases a with
  | cons h1 h2 =>
    cases h2 with
    | cons h2 h3 =>
      cases h3
      exact hr _ _ H Q h1 h2 q
abbrev rLenQ (K : PySem.W.Frag) : List V → Hp → VK → Prop := fun xs H Q => ∃ p ys, xs = [.ref p] ∧ (SqL K H p ys ∨ SqT K H p ys) ∧ Q (.int ys.length) H
theorem ed_lenL {ds : List PD} (h : Ed ρ te (.list ds)) : Ed ρ (tCB (rLenQ K) (tCons te tNil)) (.int ds.length) := ed_cb1 h fun v H Q hv q => by
  obtain ⟨a, xs, rfl, h1, h2⟩ := hv.of_lst
  exact ⟨a, xs, rfl, .inl (SqL.of h1), by rw [h2.length]; exact q _ H (Same.refl H) (.int _)⟩
theorem ed_lenT {ds : List PD} (h : Ed ρ te (.tuple ds)) : Ed ρ (tCB (rLenQ K) (tCons te tNil)) (.int ds.length) := ed_cb1 h fun v H Q hv q => by
  obtain ⟨a, xs, rfl, h1, h2⟩ := hv.of_tup
  exact ⟨a, xs, rfl, .inr h1.seq, by rw [h2.length]; exact q _ H (Same.refl H) (.int _)⟩
theorem ed_sum {ds : List PD} {ns : List Int} (h : Ed ρ te (.list ds)) (e : ds = ns.map .int) : Ed ρ (tCB (rSum K) (tCons te tNil)) (.int ns.sum) := ed_cb1 h fun v H Q hv q => by
  subst e
  obtain ⟨a, xs, rfl, h1, h2⟩ := hv.of_lst
  rw [h2.ints] at h1
  exact ⟨a, ns, rfl, SqL.of h1, q _ H (Same.refl H) (.int _)⟩
theorem ed_max {ds : List PD} {ns : List Int} {m : Int} (h : Ed ρ te (.list ds)) (e : ds = ns.map .int) (hn : 0 < ns.length) (hm : ∀ k, k ∈ ns → (∀ y, y ∈ ns → y ≤ k) → k = m) : Ed ρ (tCB (rMax K) (tCons te tNil)) (.int m) := ed_cb1 h fun v H Q hv q => by
  subst e
  obtain ⟨a, xs, rfl, h1, h2⟩ := hv.of_lst
  rw [h2.ints] at h1
  exact ⟨a, ns, rfl, SqL.of h1, hn, fun k k1 k2 => by rw [hm k k1 k2]; exact q _ H (Same.refl H) (.int _)⟩
theorem ed_min {ds : List PD} {ns : List Int} {m : Int} (h : Ed ρ te (.list ds)) (e : ds = ns.map .int) (hn : 0 < ns.length) (hm : ∀ k, k ∈ ns → (∀ y, y ∈ ns → k ≤ y) → k = m) : Ed ρ (tCB (rMin K) (tCons te tNil)) (.int m) := ed_cb1 h fun v H Q hv q => by
  subst e
  obtain ⟨a, xs, rfl, h1, h2⟩ := hv.of_lst
  rw [h2.ints] at h1
  exact ⟨a, ns, rfl, SqL.of h1, hn, fun k k1 k2 => by rw [hm k k1 k2]; exact q _ H (Same.refl H) (.int _)⟩
theorem ed_all {ds : List PD} {bs : List Bool} (h : Ed ρ te (.list ds)) (e : ds = bs.map .bool) : Ed ρ (tCB (rAll K) (tCons te tNil)) (.bool (bs.all id)) := ed_cb1 h fun v H Q hv q => by
  subst e
  obtain ⟨a, xs, rfl, h1, h2⟩ := hv.of_lst
  rw [h2.bls] at h1
  exact ⟨a, bs, rfl, SqL.of h1, q _ H (Same.refl H) (.bl _)⟩
theorem ed_min2 {i j : Int} (h : Ed ρ ta (.int i)) (h' : Ed ρ tb (.int j)) : Ed ρ (tCB (fun xs H Q => ∃ i j, xs = [.int i, .int j] ∧ Q (.int (if j < i then j else i)) H) (tCons ta (tCons tb tNil))) (.int (min i j)) := ed_cb2 h h' fun v w H Q hv hw q => by
  cases hv
  cases hw
  refine ⟨i, j, rfl, ?_⟩
  rw [show (if j < i then j else i) = min i j by omega]
  exact q _ H (Same.refl H) (.int _)
theorem ed_max2 {i j : Int} (h : Ed ρ ta (.int i)) (h' : Ed ρ tb (.int j)) : Ed ρ (tCB (fun xs H Q => ∃ i j, xs = [.int i, .int j] ∧ Q (.int (if j > i then j else i)) H) (tCons ta (tCons tb tNil))) (.int (max i j)) := ed_cb2 h h' fun v w H Q hv hw q => by
  cases hv
  cases hw
  refine ⟨i, j, rfl, ?_⟩
  rw [show (if j > i then j else i) = max i j by omega]
  exact q _ H (Same.refl H) (.int _)
theorem ed_intB {b : Bool} (h : Ed ρ te (.bool b)) : Ed ρ (tCB (fun xs H Q => (∃ i, xs = [.int i] ∧ Q (.int i) H) ∨ ∃ k, xs = [.bl k] ∧ Q (.int (if k then 1 else 0)) H) (tCons te tNil)) (.int (if b then 1 else 0)) := ed_cb1 h fun v H Q hv q => by
  cases hv
  exact .inr ⟨b, rfl, q _ H (Same.refl H) (.int _)⟩
theorem ed_tupOf {ds : List PD} (h : Ed ρ te (.list ds)) : Ed ρ (tCB (fun xs H Q => ∃ p ys, xs = [.ref p] ∧ SqL K H p ys ∧ NewT ys H Q) (tCons te tNil)) (.tuple ds) := ed_cb1 h fun v H Q hv q => by
  obtain ⟨a, xs, rfl, h1, h2⟩ := hv.of_lst
  exact ⟨a, xs, rfl, SqL.of h1, h2.newT q⟩
/-! lists put together -/
theorem ed_cat {ds es : List PD} (ha : Ed ρ ta (.list ds)) (hb : Ed ρ tb (.list es)) (hz : ds.length + es.length ≤ 1000000) : Ed ρ (tOp rCat ta tb) (.list (ds ++ es)) := ed_op ha hb fun x y H Q hx hy q => by
  obtain ⟨a, xs, rfl, h1, h2⟩ := hx.of_lst
  obtain ⟨b, ys, rfl, h3, h4⟩ := hy.of_lst
  exact ⟨a, b, xs, ys, rfl, rfl, h1, h3, by rw [h2.length, h4.length]; exact sizes hz, fun p hp => q _ _ (Same.new hp) (.lst upd_same ((h2.append h4).mono (Same.new hp)))⟩
theorem DvAll.rep {H : Hp} {vs : List V} {ds : List PD} (a : DvAll H vs ds) : ∀ n : Nat, DvAll H (List.replicate n vs).flatten (List.replicate n ds).flatten
  | 0 => .nil
  | n + 1 => by
    rw [List.replicate_succ, List.replicate_succ, List.flatten_cons, List.flatten_cons]
    exact a.append (DvAll.rep a n)
theorem ed_rep {ds : List PD} {k : Int} (ha : Ed ρ ta (.list ds)) (hb : Ed ρ tb (.int k)) (h1 : -1000000 ≤ k) (h2 : k ≤ 1000000) (hz : ds.length * k.toNat ≤ 1000000) : Ed ρ (tOp rRep ta tb) (.list (List.replicate k.toNat ds).flatten) := ed_op ha hb fun x y H Q hx hy q => by
  obtain ⟨a, xs, rfl, g1, g2⟩ := hx.of_lst
  cases hy
  exact ⟨a, k, xs, rfl, rfl, g1, by omega, by omega, by rw [g2.length]; exact sizes hz, fun p hp => q _ _ (Same.new hp) (.lst upd_same ((g2.rep k.toNat).mono (Same.new hp)))⟩
theorem ed_catT {ds es : List PD} (ha : Ed ρ ta (.tuple ds)) (hb : Ed ρ tb (.tuple es)) (hz : ds.length + es.length ≤ 1000000) : Ed ρ (tOp (rCatF K) ta tb) (.tuple (ds ++ es)) := ed_op ha hb fun x y H Q hx hy q => by
  obtain ⟨a, xs, rfl, h1, h2⟩ := hx.of_tup
  obtain ⟨b, ys, rfl, h3, h4⟩ := hy.of_tup
  refine ⟨a, b, xs, ys, rfl, rfl, h1.seq, h3.seq, by rw [h2.length, h4.length]; exact sizes hz, fun e => ?_, fun e e' => ?_, fun e e' => ?_⟩
  · subst e
    cases h2
    exact q _ H (Same.refl H) (.tup h3 h4)
  · subst e'
    cases h4
    exact q _ H (Same.refl H) (.tup h1 (by rw [List.append_nil]; exact h2))
  · exact (h2.append h4).newT q
/-! slices -/
theorem eo_no : EdO ρ tNoPart none := fun σ H Q s q => q H (Same.refl H)
theorem eo_at {i : Int} (h : Ed ρ te (.int i)) : EdO ρ (tPart te) (some i) := fun σ H Q s q => h σ H _ s fun v H1 e1 h1 => ⟨i, h1.of_int, q H1 e1⟩
def cutD (ds : List PD) (lo hi : Option Int) : List PD := (ds.drop (HT.sIx ds.length 0 lo)).take (HT.sIx ds.length ds.length hi - HT.sIx ds.length 0 lo)
theorem DvAll.cut {H : Hp} {vs : List V} {ds : List PD} (a : DvAll H vs ds) (lo hi : Option Int) : DvAll H (cutV vs lo hi) (cutD ds lo hi) := by
  unfold cutV cutD
  rw [a.length]
  exact (a.drop _).take _
theorem cutD_whole {ds : List PD} {lo hi : Option Int} (h : HT.sIx ds.length 0 lo = 0 ∧ HT.sIx ds.length ds.length hi = ds.length) : cutD ds lo hi = ds := by
  unfold cutD
  rw [h.1, h.2]
  simp
theorem ed_slT {tl th : TO} {ds : List PD} {lo hi : Option Int} (ha : Ed ρ ta (.tuple ds)) (hl : EdO ρ tl lo) (hh : EdO ρ th hi) : Ed ρ (tSl (rSlF K) ta tl th) (.tuple (cutD ds lo hi)) := fun σ H Q s q =>
  ha σ H _ s fun v H1 e1 h1 => hl σ H1 _ (s.mono e1) fun H2 e2 => hh σ H2 _ (s.mono (e1.trans e2)) fun H3 e3 => by
    obtain ⟨a, xs, rfl, g1, g2⟩ := (h1.mono (e2.trans e3)).of_tup
    have e := (e1.trans e2).trans e3
    refine ⟨a, xs, rfl, g1.seq, fun z => ?_, fun z => ?_⟩
    · rw [g2.length] at z
      exact q _ H3 e (.tup g1 (by rw [cutD_whole z]; exact g2))
    · exact (g2.cut lo hi).newT fun v H4 e4 h4 => q v H4 (e.trans e4) h4
theorem ed_slL {tl th : TO} {ds : List PD} {lo hi : Option Int} (ha : Ed ρ ta (.list ds)) (hl : EdO ρ tl lo) (hh : EdO ρ th hi) : Ed ρ (tSl (rSlL K) ta tl th) (.list (cutD ds lo hi)) := fun σ H Q s q =>
  ha σ H _ s fun v H1 e1 h1 => hl σ H1 _ (s.mono e1) fun H2 e2 => hh σ H2 _ (s.mono (e1.trans e2)) fun H3 e3 => by
    obtain ⟨a, xs, rfl, g1, g2⟩ := (h1.mono (e2.trans e3)).of_lst
    have e := (e1.trans e2).trans e3
    exact ⟨a, xs, rfl, SqL.of g1, fun p hp => q _ _ (e.trans (Same.new hp)) (.lst upd_same ((g2.cut lo hi).mono (Same.new hp)))⟩
/-! tests -/
theorem et_test {b : Bool} (h : Ed ρ te (.bool b)) : Et ρ (tTest te) b := fun σ H Q s q => h σ H _ s fun v H1 e1 h1 => ⟨b, h1.of_bl, q H1 e1⟩
theorem et_B {b : Bool} (h : Ed ρ te (.bool b)) : Et ρ (tB te) b := fun σ H Q s q => h σ H _ s fun v H1 e1 h1 => ⟨b, h1.of_bl, q H1 e1⟩
theorem et_and {t u : TT} {a b : Bool} (h1 : Et ρ t a) (h2 : a = true → Et ρ u b) : Et ρ (tAnd t u) (a && b) := fun σ H Q s q => h1 σ H _ s fun H1 e1 => by
  cases a with
  | true => exact h2 rfl σ H1 Q (s.mono e1) fun H2 e2 => q H2 (e1.trans e2)
  | false => exact q H1 e1
theorem et_or {t u : TT} {a b : Bool} (h1 : Et ρ t a) (h2 : a = false → Et ρ u b) : Et ρ (tOr t u) (a || b) := fun σ H Q s q => h1 σ H _ s fun H1 e1 => by
  cases a with
  | true => exact q H1 e1
  | false => exact h2 rfl σ H1 Q (s.mono e1) fun H2 e2 => q H2 (e1.trans e2)
theorem et_not {t : TT} {a : Bool} (h : Et ρ t a) : Et ρ (tNot t) (!a) := fun σ H Q s q => h σ H _ s fun H1 e1 => q H1 e1
theorem et_yes : Et ρ tYes true := fun σ H Q s q => q H (Same.refl H)
theorem ed_andV {a b : Bool} (h1 : Ed ρ ta (.bool a)) (h2 : a = true → Ed ρ tb (.bool b)) : Ed ρ (tAndV ta tb) (.bool (a && b)) := fun σ H Q s q => h1 σ H _ s fun v H1 e1 g1 => ⟨a, g1.of_bl, by
  cases a with
  | true => exact h2 rfl σ H1 Q (s.mono e1) fun w H2 e2 => q w H2 (e1.trans e2)
  | false => exact q _ H1 e1 (.bl false)⟩
theorem ed_orV {a b : Bool} (h1 : Ed ρ ta (.bool a)) (h2 : a = false → Ed ρ tb (.bool b)) : Ed ρ (tOrV ta tb) (.bool (a || b)) := fun σ H Q s q => h1 σ H _ s fun v H1 e1 g1 => ⟨a, g1.of_bl, by
  cases a with
  | true => exact q _ H1 e1 (.bl true)
  | false => exact h2 rfl σ H1 Q (s.mono e1) fun w H2 e2 => q w H2 (e1.trans e2)⟩
theorem ed_notV {a : Bool} (h : Ed ρ ta (.bool a)) : Ed ρ (tNotV ta) (.bool (!a)) := fun σ H Q s q => h σ H _ s fun v H1 e1 g1 => ⟨a, g1.of_bl, q _ H1 e1 (.bl _)⟩
theorem ed_if {t : TT} {b : Bool} {d : PD} (h : Et ρ t b) (h1 : b = true → Ed ρ ta d) (h2 : b = false → Ed ρ tb d) : Ed ρ (tIf t ta tb) d := fun σ H Q s q => h σ H _ s fun H1 e1 => by
  cases b with
  | true => exact h1 rfl σ H1 Q (s.mono e1) fun w H2 e2 => q w H2 (e1.trans e2)
  | false => exact h2 rfl σ H1 Q (s.mono e1) fun w H2 e2 => q w H2 (e1.trans e2)
theorem ed_ifT {t : TT} {d : PD} (h : Et ρ t true) (h1 : Ed ρ ta d) : Ed ρ (tIf t ta tb) d := ed_if h (fun _ => h1) (fun e => nomatch e)
theorem ed_ifF {t : TT} {d : PD} (h : Et ρ t false) (h1 : Ed ρ tb d) : Ed ρ (tIf t ta tb) d := ed_if h (fun e => nomatch e) (fun _ => h1)
/-! targets -/
theorem eg_name {i : Nat} {d : PD} : Eg ρ (gName i) d [i] (ρ.set i (some d)) := fun v σ H Q s h q => q _ (s.set i h) (List.length_set ..) fun j hj => by
  rw [List.getElem?_set_ne (by simp at hj; omega)]
theorem egs_nil : EgA ρ gNil [] [] ρ := fun vs σ H Q s h q => by
  cases h
  exact ⟨rfl, q σ s rfl fun _ _ => rfl⟩
theorem egs_cons {g : TG} {gs : TGs} {d : PD} {ds : List PD} {js ks : List Nat} (h1 : Eg ρ g d js ρ1) (h2 : EgA ρ1 gs ds ks ρ2) : EgA ρ (gCons g gs) (d :: ds) (js ++ ks) ρ2 := fun vs σ H Q s h q => by
  cases h with
  | cons a b => exact ⟨_, _, rfl, h1 _ σ H _ s a fun σ1 s1 l1 f1 => h2 _ σ1 H Q s1 b fun σ2 s2 l2 f2 => q σ2 s2 (l2.trans l1) fun i hi => (f2 i fun z => hi (List.mem_append_right _ z)).trans (f1 i fun z => hi (List.mem_append_left _ z))⟩
theorem eg_tup {n : Nat} {gs : TGs} {ds : List PD} {js : List Nat} (h : EgA ρ gs ds js ρ') (hn : ds.length = n) : Eg ρ (gTup K n gs) (.tuple ds) js ρ' := fun v σ H Q s hv q => by
  obtain ⟨a, xs, rfl, g1, g2⟩ := hv.of_tup
  exact ⟨a, xs, rfl, g1.seq, by rw [g2.length]; exact hn, h xs σ H Q s g2 q⟩
/-! what is walked -/
theorem wk_list {H : Hp} {a : Addr} {xs : List V} {ds : List PD} (h : H a = some (.lst xs)) (hd : DvAll H xs ds) : Wk (Itl K a) H ds := by
  refine ⟨fun i H2 e hi => ?_, fun H2 e => ⟨xs, SqL.of (e _ _ h), by rw [hd.length]; exact Nat.le_refl _⟩, fun i H2 x H3 e hi y => ?_⟩
  · obtain ⟨v, h1, _⟩ := hd.get (List.getElem?_eq_getElem hi)
    exact ⟨xs, v, SqL.of (e _ _ h), h1⟩
  · obtain ⟨rfl, y⟩ := y
    have g := y xs (SqL.of (e _ _ h))
    obtain ⟨d, h1, h2⟩ := hd.get' g
    exact ⟨Same.refl _, d, h1, h2.mono e⟩
theorem wk_tup {H : Hp} {a : Addr} {xs : List V} {ds : List PD} (h : TF H a xs) (hd : DvAll H xs ds) : Wk (Itt K a) H ds := by
  refine ⟨fun i H2 e hi => ?_, fun H2 e => ⟨xs, (h.mono e).seq, by rw [hd.length]; exact Nat.le_refl _⟩, fun i H2 x H3 e hi y => ?_⟩
  · obtain ⟨v, h1, _⟩ := hd.get (List.getElem?_eq_getElem hi)
    exact ⟨xs, v, (h.mono e).seq, h1⟩
  · obtain ⟨rfl, y⟩ := y
    have g := y xs ((h.mono e).seq)
    obtain ⟨d, h1, h2⟩ := hd.get' g
    exact ⟨Same.refl _, d, h1, h2.mono e⟩
theorem ei_list {ds : List PD} (h : Ed ρ te (.list ds)) : Ei ρ (iList K te) ds := fun σ H R s q => h σ H _ s fun v H1 e1 h1 => by
  obtain ⟨a, xs, rfl, g1, g2⟩ := h1.of_lst
  exact ⟨a, rfl, ⟨xs, SqL.of g1⟩, q _ H1 e1 (wk_list g1 g2)⟩
theorem ei_tup {ds : List PD} (h : Ed ρ te (.tuple ds)) : Ei ρ (iTup K te) ds := fun σ H R s q => h σ H _ s fun v H1 e1 h1 => by
  obtain ⟨a, xs, rfl, g1, g2⟩ := h1.of_tup
  exact ⟨a, rfl, ⟨xs, g1.seq⟩, q _ H1 e1 (wk_tup g1 g2)⟩
def upTo (n : Int) : List PD := (List.range n.toNat).map fun (i : Nat) => PyData.int (i : Int)
theorem upTo_len (n : Int) : (upTo n).length = n.toNat := by
  unfold upTo
  rw [List.length_map, List.length_range]
theorem upTo_get {n : Int} {i : Nat} (h : i < n.toNat) : (upTo n)[i]? = some (.int (i : Int)) := by
  unfold upTo
  rw [List.getElem?_map, List.getElem?_range h]
  rfl
theorem ei_range {n : Int} (h : Ed ρ te (.int n)) (h1 : -1000000 ≤ n) (h2 : n ≤ 1000000) : Ei ρ (iRng1 (tCons te tNil)) (upTo n) := fun σ H R s q => h σ H _ s fun v H1 e1 g1 => by
  cases g1
  refine ⟨n, rfl, by omega, by omega, q _ H1 e1 ⟨fun i H2 e hi => ?_, fun H2 e => ?_, fun i H2 x H3 e hi y => ?_⟩⟩
  · rw [upTo_len] at hi
    exact hi
  · show n.toNat ≤ (upTo n).length
    rw [upTo_len]
    exact Nat.le_refl _
  · rw [upTo_len] at hi
    obtain ⟨rfl, rfl⟩ := y
    refine ⟨Same.refl _, _, upTo_get hi, ?_⟩
    rw [Int.zero_add]
    exact .int _
/-! a comprehension: what each item gives, or nothing -/
theorem noLAll_append : ∀ {a b : List PD}, noLAll a = true → noLAll b = true → noLAll (a ++ b) = true
  | [], _, _, h => h
  | d :: a, b, h, h' => by
    simp only [noLAll, Bool.and_eq_true] at h
    show noLAll (d :: (a ++ b)) = true
    simp only [noLAll, Bool.and_eq_true]
    exact ⟨h.1, noLAll_append h.2 h'⟩
def LcTurn (ρ : En) (g : TG) (tt : TT) (te : TE) (vs : List Nat) (d : PD) (o : Option PD) : Prop :=
  ∃ js ρ2 b, Eg (wipeE ρ vs) g d js ρ2 ∧ (∀ j ∈ js, j ∈ vs) ∧ Et ρ2 tt b ∧ (b = true → ∃ e, o = some e ∧ noL e = true ∧ Ed ρ2 te e) ∧ (b = false → o = none)
def some1 : Option PD → List PD
  | some e => [e]
  | none => []
theorem take_filterMap {f : Nat → Option PD} {n : Nat} : ((List.range (n + 1)).filterMap f) = ((List.range n).filterMap f) ++ some1 (f n) := by
  rw [List.range_succ, List.filterMap_append]
  congr 1
  cases h : f n <;> simp [h, some1]
theorem ed_lc {wi : TI} {g : TG} {tt : TT} {te : TE} {vs : List Nat} {ds : List PD} {f : Nat → Option PD} (h : Ei ρ wi ds) (ht : ∀ i d, ds[i]? = some d → LcTurn ρ g tt te vs d (f i)) (hz : ds.length < 1000000) :
    Ed ρ (tLc wi g tt te vs) (.list ((List.range ds.length).filterMap f)) := fun σ H Q s q => h σ H _ s fun J H1 e1 w D hD => by
  have hle : ∀ i, ((List.range i).filterMap f).length ≤ i := fun i => by
    have := List.length_filterMap_le f (List.range i)
    rw [List.length_range] at this
    exact this
  have m1 : ∀ (H2 : Hp) (o : HO), Same H1 H2 → Same H1 (upd H2 D o) := fun H2 o e b x hb => by
    rw [upd_ne (ne_of_none hb hD)]
    exact e b x hb
  refine ⟨fun i m H' => m = ds.length - i ∧ i ≤ ds.length ∧ Same H1 H' ∧ ∃ acc, H' D = some (.lst acc) ∧ DvAll H' acc ((List.range i).filterMap f) ∧ noLAll ((List.range i).filterMap f) = true,
    ⟨ds.length, by simp, Nat.zero_le _, m1 _ _ (Same.refl _), [], upd_same, .nil, rfl⟩, ?_⟩
  rintro i m H2 ⟨rfl, hi, e2, acc, g1, g2, g3⟩
  by_cases hlt : i < ds.length
  · refine .inr ⟨w.goes i H2 e2 hlt, fun H' => i + 1 ≤ ds.length ∧ Same H1 H' ∧ ∃ acc, H' D = some (.lst acc) ∧ DvAll H' acc ((List.range (i + 1)).filterMap f) ∧ noLAll ((List.range (i + 1)).filterMap f) = true, fun H' p => ⟨ds.length - (i + 1), by omega, rfl, p⟩, fun x H3 y => ?_⟩
    obtain ⟨e3, d, hd, hx⟩ := w.yields i H2 x H3 e2 hlt y
    obtain ⟨js, ρ2, b, k1, k2, k3, k4, k5⟩ := ht i d hd
    have s3 : Sg H3 (L2.wipe σ vs) (wipeE ρ vs) := (s.mono (e1.trans (e2.trans e3))).wipe vs
    refine k1 x _ H3 _ s3 hx fun σ2 s2 l2 f2 => ⟨?_, ?_⟩
    · rw [← wipe_wipe σ vs]
      exact wipe_of l2 fun i hi => f2 i fun z => hi (k2 i z)
    · refine k3 σ2 H3 _ s2 fun H4 e4 => ?_
      cases b with
      | true =>
        obtain ⟨e, he, hn, hed⟩ := k4 rfl
        refine hed σ2 H4 _ (s2.mono e4) fun v H5 e5 hv => ?_
        have e25 : Same H2 H5 := e3.trans (e4.trans e5)
        have gD : H5 D = some (.lst acc) := e25 _ _ g1
        have im : Imm H5 (upd H5 D (.lst (acc ++ [v]))) := Imm.mut gD
        refine ⟨acc, gD, ?_, by omega, m1 _ _ (e2.trans e25), acc ++ [v], upd_same, ?_, ?_⟩
        · rw [g2.length]
          exact Nat.lt_of_le_of_lt (hle i) (Nat.lt_of_lt_of_le (by omega : i < 1000000) (by decide))
        · rw [take_filterMap, he]
          exact ((g2.mono e25).imm im g3).append (.one (hv.imm im hn))
        · rw [take_filterMap, he]
          exact noLAll_append g3 (by simp [some1, noLAll, hn])
      | false =>
        have he := k5 rfl
        show i + 1 ≤ ds.length ∧ Same H1 H4 ∧ _
        refine ⟨by omega, e2.trans (e3.trans e4), acc, (e3.trans e4) _ _ g1, ?_, ?_⟩
        · rw [take_filterMap, he]
          rw [show some1 none = ([] : List PD) from rfl, List.append_nil]
          exact g2.mono (e3.trans e4)
        · rw [take_filterMap, he]
          exact noLAll_append g3 rfl
  · have hi' : i = ds.length := by omega
    subst hi'
    exact .inl ⟨w.stops H2 e2, q _ H2 (e1.trans e2) (.lst g1 g2)⟩
/-- each item gives: the list of what they give -/
theorem range_map {α : Type} {β : Type} (l : List α) (f : α → β) : (List.range l.length).filterMap (fun i => l[i]?.map f) = l.map f := by
  induction l with
  | nil => rfl
  | cons a r ih =>
    rw [List.length_cons, List.range_succ_eq_map, List.filterMap_cons]
    simp only [List.getElem?_cons_zero, Option.map_some, List.map_cons, List.filterMap_map]
    rw [← ih]
    congr 1
theorem range_fm {α : Type} {β : Type} (l : List α) (f : α → Option β) : (List.range l.length).filterMap (fun i => l[i]?.bind f) = l.filterMap f := by
  induction l with
  | nil => rfl
  | cons a r ih =>
    rw [List.length_cons, List.range_succ_eq_map, List.filterMap_cons]
    simp only [List.getElem?_cons_zero, Option.bind_some, List.filterMap_map]
    rw [List.filterMap_cons, ← ih]
    cases f a <;> (simp only []; congr 1)
/-- over data that stand for things: the list of what the things give -/
theorem ed_lcm {α : Type} {wi : TI} {g : TG} {te : TE} {vs : List Nat} {l : List α} {enc f : α → PD} (h : Ei ρ wi (l.map enc))
    (ht : ∀ a ∈ l, ∃ js ρ2, Eg (wipeE ρ vs) g (enc a) js ρ2 ∧ (∀ j ∈ js, j ∈ vs) ∧ noL (f a) = true ∧ Ed ρ2 te (f a)) (hz : l.length < 1000000) : Ed ρ (tLc wi g tYes te vs) (.list (l.map f)) := by
  have q := ed_lc (g := g) (tt := tYes) (vs := vs) (te := te) (f := fun i => l[i]?.map f) h (fun i d hd => ?_) (by rw [List.length_map]; exact hz)
  · rw [List.length_map, range_map] at q
    exact q
  · rw [List.getElem?_map] at hd
    cases e : l[i]? with
    | none => rw [e] at hd; cases hd
    | some a =>
      rw [e] at hd
      cases hd
      obtain ⟨js, ρ2, h1, h2, h3, h4⟩ := ht a (List.mem_of_getElem? e)
      exact ⟨js, ρ2, true, h1, h2, et_yes, fun _ => ⟨f a, rfl, h3, h4⟩, fun z => nomatch z⟩
/-- .. of those that pass a test -/
theorem ed_lcf {α : Type} {wi : TI} {g : TG} {tt : TT} {te : TE} {vs : List Nat} {l : List α} {enc f : α → PD} {p : α → Bool} (h : Ei ρ wi (l.map enc))
    (ht : ∀ a ∈ l, ∃ js ρ2, Eg (wipeE ρ vs) g (enc a) js ρ2 ∧ (∀ j ∈ js, j ∈ vs) ∧ Et ρ2 tt (p a) ∧ (p a = true → noL (f a) = true ∧ Ed ρ2 te (f a))) (hz : l.length < 1000000) : Ed ρ (tLc wi g tt te vs) (.list ((l.filter p).map f)) := by
  have q := ed_lc (g := g) (tt := tt) (vs := vs) (te := te) (f := fun i => l[i]?.bind fun a => if p a then some (f a) else none) h (fun i d hd => ?_) (by rw [List.length_map]; exact hz)
  · rw [List.length_map, range_fm] at q
    have e : (l.filterMap fun a => if p a = true then some (f a) else none) = (l.filter p).map f := by
      clear h ht hz q
      induction l with
      | nil => rfl
      | cons a r ih =>
        rw [List.filterMap_cons, List.filter_cons]
        cases hp : p a
        · simpa using ih
        · simpa using ih
    rw [e] at q
    exact q
  · rw [List.getElem?_map] at hd
    cases e : l[i]? with
    | none => rw [e] at hd; cases hd
    | some a =>
      rw [e] at hd
      cases hd
      obtain ⟨js, ρ2, h1, h2, h3, h4⟩ := ht a (List.mem_of_getElem? e)
      refine ⟨js, ρ2, p a, h1, h2, h3, fun z => ⟨f a, ?_, (h4 z).1, (h4 z).2⟩, fun z => ?_⟩
      · show (if p a = true then some (f a) else none) = some (f a)
        rw [if_pos z]
      · show (if p a = true then some (f a) else none) = none
        rw [if_neg (by rw [z]; decide)]
end

/-! ### blocks -/
section
variable {ρ ρ' ρ1 ρ2 : En} {ta tb te tc : TE} {K : PySem.W.Frag} {t u : TS} {o : Oc}
theorem Eo.weak (h : Eo ρ' t o) (l : Le ρ' ρ) : Eo ρ t o := fun D σ H s q => h D σ H (s.le l) q
theorem Eo.less (h : Eo ρ t (.go ρ1)) (l : Le ρ2 ρ1) : Eo ρ t (.go ρ2) := fun D σ H s q => h D σ H s fun σ' H' e s' => q σ' H' e (s'.le l)
theorem eo_next : Eo ρ tNext (.go ρ) := fun D σ H s q => q σ H (Same.refl H) s
theorem eo_seq (h1 : Eo ρ t (.go ρ1)) (h2 : Eo ρ1 u o) : Eo ρ (tSeq t u) o := fun D σ H s q => h1 { D with nx := u D } σ H s fun σ' H' e s' => h2 D σ' H' s' (Oc.to_mono q e)
theorem eo_ret1 {d : PD} (h1 : Eo ρ t (.rt d)) : Eo ρ (tSeq t u) (.rt d) := fun D σ H s q => h1 { D with nx := u D } σ H s q
theorem eo_set {i : Nat} {d : PD} (h : Ed ρ te d) : Eo ρ (tAsg te (gName i)) (.go (ρ.set i (some d))) := fun D σ H s q => h σ H _ s fun v H1 e1 h1 => q _ H1 e1 ((s.mono e1).set i h1)
theorem eo_asg {g : TG} {d : PD} {js : List Nat} (h : Ed ρ te d) (hg : Eg ρ g d js ρ1) : Eo ρ (tAsg te g) (.go ρ1) := fun D σ H s q => h σ H _ s fun v H1 e1 h1 => hg v σ H1 _ (s.mono e1) h1 fun σ' s' _ _ => q σ' H1 e1 s'
theorem eo_drop {d : PD} (h : Ed ρ te d) : Eo ρ (tDrop te) (.go ρ) := fun D σ H s q => h σ H _ s fun v H1 e1 h1 => q σ H1 e1 (s.mono e1)
theorem eo_ret {d : PD} (h : Ed ρ te d) : Eo ρ (tRet te) (.rt d) := fun D σ H s q => h σ H _ s q
theorem eo_if {c : TT} {b : Bool} (h : Et ρ c b) (h1 : b = true → Eo ρ t o) (h2 : b = false → Eo ρ u o) : Eo ρ (tIfS c t u) o := fun D σ H s q => h σ H _ s fun H1 e1 => by
  cases b with
  | true => exact h1 rfl D σ H1 (s.mono e1) (Oc.to_mono q e1)
  | false => exact h2 rfl D σ H1 (s.mono e1) (Oc.to_mono q e1)
theorem eo_ifT {c : TT} (h : Et ρ c true) (h1 : Eo ρ t o) : Eo ρ (tIfS c t u) o := eo_if h (fun _ => h1) (fun e => nomatch e)
theorem eo_ifF {c : TT} (h : Et ρ c false) (h1 : Eo ρ u o) : Eo ρ (tIfS c t u) o := eo_if h (fun e => nomatch e) (fun _ => h1)
/-- a loop: inv at each turn; it ends, or gives its answer at turn k -/
theorem eo_for {wi : TI} {g : TG} {tb : TS} {ds : List PD} (inv : Nat → En) (h : Ei ρ wi ds) (h0 : Le (inv 0) ρ)
    (ht : ∀ i d, ds[i]? = some d → ∃ js ρ2, Eg (inv i) g d js ρ2 ∧ Eo ρ2 tb (.go (inv (i + 1)))) : Eo ρ (tFor wi g tb) (.go (inv ds.length)) := fun D σ H s q => h σ H _ s fun J H1 e1 w => by
  refine ⟨fun i m σ' H' => m = ds.length - i ∧ i ≤ ds.length ∧ Same H1 H' ∧ Sg H' σ' (inv i), ⟨_, rfl, Nat.zero_le _, Same.refl _, (s.mono e1).le h0⟩, ?_⟩
  rintro i m σ2 H2 ⟨rfl, hi, e2, s2⟩
  by_cases hlt : i < ds.length
  · refine .inr ⟨w.goes i H2 e2 hlt, fun σ' H' => i + 1 ≤ ds.length ∧ Same H1 H' ∧ Sg H' σ' (inv (i + 1)), fun σ' H' p => ⟨ds.length - (i + 1), by omega, rfl, p⟩, fun x H3 y => ?_⟩
    obtain ⟨e3, d, hd, hx⟩ := w.yields i H2 x H3 e2 hlt y
    obtain ⟨js, ρ2, k1, k2⟩ := ht i d hd
    refine k1 x σ2 H3 _ (s2.mono e3) hx fun σ3 s3 _ _ => ?_
    exact k2 { D with nx := _, ct := _, bk := D.nx } σ3 H3 s3 fun σ4 H4 e4 s4 => ⟨by omega, e2.trans (e3.trans e4), s4⟩
  · have hi' : i = ds.length := by omega
    subst hi'
    exact .inl ⟨w.stops H2 e2, q σ2 H2 (e1.trans e2) s2⟩
theorem eo_forR {wi : TI} {g : TG} {tb : TS} {ds : List PD} {e : PD} (inv : Nat → En) (k : Nat) (h : Ei ρ wi ds) (h0 : Le (inv 0) ρ) (hk : k < ds.length)
    (ht : ∀ i d, i < k → ds[i]? = some d → ∃ js ρ2, Eg (inv i) g d js ρ2 ∧ Eo ρ2 tb (.go (inv (i + 1)))) (hr : ∀ d, ds[k]? = some d → ∃ js ρ2, Eg (inv k) g d js ρ2 ∧ Eo ρ2 tb (.rt e)) : Eo ρ (tFor wi g tb) (.rt e) := fun D σ H s q => h σ H _ s fun J H1 e1 w => by
  refine ⟨fun i m σ' H' => m = ds.length - i ∧ i ≤ k ∧ Same H1 H' ∧ Sg H' σ' (inv i), ⟨_, rfl, Nat.zero_le _, Same.refl _, (s.mono e1).le h0⟩, ?_⟩
  rintro i m σ2 H2 ⟨rfl, hi, e2, s2⟩
  by_cases hlt : i < k
  · refine .inr ⟨w.goes i H2 e2 (by omega), fun σ' H' => i + 1 ≤ k ∧ Same H1 H' ∧ Sg H' σ' (inv (i + 1)), fun σ' H' p => ⟨ds.length - (i + 1), by omega, rfl, p⟩, fun x H3 y => ?_⟩
    obtain ⟨e3, d, hd, hx⟩ := w.yields i H2 x H3 e2 (by omega) y
    obtain ⟨js, ρ2, k1, k2⟩ := ht i d hlt hd
    refine k1 x σ2 H3 _ (s2.mono e3) hx fun σ3 s3 _ _ => ?_
    exact k2 { D with nx := _, ct := _, bk := D.nx } σ3 H3 s3 fun σ4 H4 e4 s4 => ⟨by omega, e2.trans (e3.trans e4), s4⟩
  · have hi' : i = k := by omega
    subst hi'
    refine .inr ⟨w.goes i H2 e2 hk, fun _ _ => False, fun _ _ p => p.elim, fun x H3 y => ?_⟩
    obtain ⟨e3, d, hd, hx⟩ := w.yields i H2 x H3 e2 hk y
    obtain ⟨js, ρ2, k1, k2⟩ := hr d hd
    refine k1 x σ2 H3 _ (s2.mono e3) hx fun σ3 s3 _ _ => ?_
    exact k2 { D with nx := _, ct := _, bk := D.nx } σ3 H3 s3 fun v H4 e4 hv => q v H4 (e1.trans (e2.trans (e3.trans e4))) hv
end

/-! ### defs -/
/-- a def of data: what it is given, what must hold, what it gives back -/
def spD {α : Type} (enc : α → List PD) (pre : α → Prop) (out : α → PD) : Sp := fun vs H Q _ => ∃ a, DvAll H vs (enc a) ∧ pre a ∧ ∀ v H', Same H H' → Dv H' v (out a) → Q v H'
theorem ed_call {α : Type} {enc : α → List PD} {pre : α → Prop} {out : α → PD} {ρ : En} {E : XK} {t : TA} (a : α) (h : EdA ρ t (enc a)) (hp : pre a) : Ed ρ (tCall (spD enc pre out) [] E t) (out a) := fun σ H Q s q =>
  h σ H _ s fun vs H1 e1 h1 => ⟨a, by rw [List.append_nil]; exact h1, hp, fun v H2 e2 h2 => q v H2 (e1.trans e2) h2⟩
def startE (N : List Str) (ds : List PD) : En := ds.map some ++ List.replicate (N.length - ds.length) none
theorem start_sg {H : Hp} {N : List Str} {vs : List V} {ds : List PD} (h : DvAll H vs ds) : Sg H (L2.start N vs) (startE N ds) := by
  unfold L2.start startE
  refine ⟨by simp [h.length], fun i d e => ?_⟩
  by_cases hi : i < ds.length
  · rw [List.getElem?_append_left (by simpa using hi), List.getElem?_map, List.getElem?_eq_getElem hi] at e
    cases e
    obtain ⟨v, h1, h2⟩ := h.get (List.getElem?_eq_getElem hi)
    refine ⟨v, ?_, h2⟩
    rw [List.getElem?_append_left (by rw [List.length_map, h.length]; exact hi), List.getElem?_map, h1]
    rfl
  · rw [List.getElem?_append_right (by simpa using hi), List.getElem?_replicate] at e
    split at e <;> cases e
section
variable {P : Program} {w : World} {K : PySem.W.Frag} {mg : Str → Option Value} {base : Heap}
theorem def_ok {α : Type} {x qual : Str} {st : Stmt} {f : Addr} {fd : FuncData} {N ps : List Str} {k : Nat} {enc : α → List PD} {pre : α → Prop} {out : α → PD} (F : Fun K x qual st f fd) (S : FnScope N ps (defScope st)) (hl : ∀ a, (enc a).length = ps.length)
    (hb : ∀ (cdv : Value) (A : Around) (outer : List PySem.Env) (s : Shared) (H : Hp) (E : XK), Room k (A.deeper (envOfC qual (defScope st) s.heap.objs.size f cdv)) →
      ∃ t, PSs (cxOf CX0 P w K mg base N qual (defScope st) f cdv A outer s H E).nox (defBody st) t ∧ ∀ a, pre a → Eo (startE N (enc a)) t (.rt (out a))) : FnOk P w K mg base CX0 (k + 1) f fd ps (spD enc pre out) := by
  refine F.ok S (fun vs H Q E h => ?_) (fun cdv A outer s H vs Q E hr h => ?_)
  · obtain ⟨a, h1, _⟩ := h
    rw [h1.length, hl]
  · obtain ⟨a, h1, h2, h3⟩ := h
    obtain ⟨t, h4, h5⟩ := hb cdv A outer s H E hr
    exact ⟨t, h4, h5 a h2 _ _ H (start_sg h1) fun v H' e hv => h3 v H' e hv⟩
end
theorem eqV_str (a b : Str) : eqV (.str a) (.str b) = decide (a = b) := by
  unfold eqV
  by_cases h : a = b <;> simp [h]
/-- x in ("..", "..") -/
theorem ed_in2 {ρ : En} {K : PySem.W.Frag} {ta : TE} {x a b : Str} (h : Ed ρ ta (.str x)) : Ed ρ (tOp (rIn K false) ta (tTupF (tCons (tC (.str a)) (tCons (tC (.str b)) tNil)))) (.bool (decide (a = x) || decide (b = x))) := fun σ H Q s q =>
  h σ H _ s fun v H1 e1 h1 => by
    cases h1
    refine ⟨by show 2 ≤ sizeLine; decide, fun p o hp ho => ⟨p, _, rfl, .inr (TF.seq ⟨o, upd_same, ho⟩), rfl, rfl, ?_⟩⟩
    show Q (.bl (([V.str a, V.str b] : List V).any fun y => eqV y (.str x))) _
    rw [show (([V.str a, V.str b] : List V).any fun y => eqV y (.str x)) = (decide (a = x) || decide (b = x)) by simp only [List.any_cons, List.any_nil, eqV_str, Bool.or_false]]
    exact q _ _ (e1.trans (Same.new hp)) (.bl _)
end K27
end
section
set_option Elab.async false
set_option linter.all false
set_option maxRecDepth 100000
set_option maxHeartbeats 4000000
namespace K27
open PySem PySem.Spec PyProof.Rows L2
/-! zip to one name, of lists: the tuple that was given out may be alive or gone -/
abbrev IsZipG (h : Heap) (z TI TO : Addr) (f0 : Value) (f : Bool) : Prop :=
  h.get? z = some { cls := .type "zip", dict := none, data := .fields #[f0, .bool f, .bool false, .ref TI, .ref TO], slots := #[] }
section
variable {prog : Program} {w : World} {A : Around} {E : Value → Shared → Prop} {s : Shared}
theorem gone_ok {a : Addr} {Q : Option Obj → Shared → Prop} (ho : s.heap.get? a = none) (h : Q none s) : wpAny (model prog w) A (loadIfAlive a) Q E s := by
  have h' : Q (s.heap.get? a) s := by
    rw [ho]
    exact h
  exact fun _ _ _ => h'
theorem zipF_item {zp tI tO j1 j2 a1 a2 : Addr} {n1 n2 : Nat} {us vs : Array Value} {x y a b : Value} {Q : Value → Shared → Prop} (Ap : ZipApart zp tI tO j1 j2 a1 a2)
    {f0 : Value} {f : Bool} (kz : IsZipG s.heap zp tI tO f0 f) (kf : ∀ {R : Bool → Shared → Prop}, R true s → wpAny (model prog w) A (Builtin.SmallTypes.ownedTupleIsFree (.ref zp)) R E s) (kI : IsPair s.heap tI (.ref j1) (.ref j2)) (kO : IsPair s.heap tO a b)
    (g1 : s.heap.IsListIter j1 a1 n1) (g2 : s.heap.IsListIter j2 a2 n2) (m1 : s.heap.IsList a1 us) (m2 : s.heap.IsList a2 vs) (ex : us[n1]? = some x) (ey : vs[n2]? = some y)
    (kQ : ∀ h', IsZip h' zp tI tO (rawInt s.heap.objs.size) → IsPair h' tO x y → h'.IsListIter j1 a1 (n1 + 1) → h'.IsListIter j2 a2 (n2 + 1) → IsPair h' s.heap.objs.size x y → h'.objs.size = s.heap.objs.size + 1 →
      (∀ c o, c ≠ zp → c ≠ tO → c ≠ j1 → c ≠ j2 → s.heap.get? c = some o → h'.get? c = some o) → Q (.ref s.heap.objs.size) { s with heap := h' }) :
    wpAny (model prog w) A (Builtin.«zip.__next__» ⟨[.ref zp], []⟩) (fun fin s' => ∃ v, fin = .done (.ret v) ∧ Q v s') E s := by
  show wpAny _ _ (field (.ref zp) 2 >>= _) _ _ _
  refine wpAny_bind (wpAny_field kz rfl (x := .bool false) rfl ?_)
  show wpAny _ _ (field (.ref zp) 3 >>= _) _ _ _
  refine wpAny_bind (wpAny_field kz rfl (x := .ref tI) rfl ?_)
  refine wpAny_bind (wpAny_seqItems kI rfl ?_)
  show wpAny _ _ (Builtin.SmallTypes.ownedTupleIsFree (.ref zp) >>= _) _ _ _
  refine wpAny_bind (kf ?_)
  simp only [if_true]
  refine wpAny_bind (wpAny_rule ?_)
  refine wpAny_bind (wpAny_field kz rfl (x := .ref tO) rfl ?_)
  refine wpAny_bind (wpAny_setField_rec kz (by simp) fun p₁ kz₁ ks₁ => ?_)
  replace kz₁ : IsZipG p₁ zp tI tO .ellipsis f := kz₁
  refine wpAny_bind ?_
  simp only [List.zipIdx_cons, List.zipIdx_nil, List.forIn_cons, List.forIn_nil]
  refine wpAny_bind (wpAny_bind (wpAny_onRaise ?_))
  show wpAny _ _ (Builtin.SmallTypes.nextOf (.ref j1) >>= _) _ _ _
  refine wpAny_bind (wpAny_nextOf_list_item (g1.extBut ks₁.extBut Ap.i1z) (m1.extBut ks₁.extBut Ap.l1z) ex fun p₂ g1₂ ks₂ => wpAny_pure ?_)
  have kO₂ : IsPair p₂ tO a b := ks₂.extBut _ _ Ap.TOi1 (ks₁.extBut _ _ Ap.TOz kO)
  refine wpAny_bind (wpAny_seqItems kO₂ rfl ?_)
  refine wpAny_bind (wpAny_updateSeq_pair kO₂ fun p₃ kO₃ ks₃ => ?_)
  replace kO₃ : IsPair p₃ tO x b := kO₃
  refine wpAny_bind (wpAny_letGo (wpAny_pure ?_))
  refine wpAny_bind (wpAny_bind (wpAny_onRaise ?_))
  show wpAny _ _ (Builtin.SmallTypes.nextOf (.ref j2) >>= _) _ _ _
  refine wpAny_bind (wpAny_nextOf_list_item (((g2.extBut ks₁.extBut Ap.i2z).extBut ks₂.extBut Ap.i12.symm).extBut ks₃.extBut Ap.TOi2.symm)
    (((m2.extBut ks₁.extBut Ap.l2z).extBut ks₂.extBut Ap.l2i1).extBut ks₃.extBut Ap.l2TO) ey fun p₄ g2₄ ks₄ => wpAny_pure ?_)
  have kO₄ : IsPair p₄ tO x b := ks₄.extBut _ _ Ap.TOi2 kO₃
  refine wpAny_bind (wpAny_seqItems kO₄ rfl ?_)
  refine wpAny_bind (wpAny_updateSeq_pair kO₄ fun p₅ kO₅ ks₅ => ?_)
  replace kO₅ : IsPair p₅ tO x y := kO₅
  refine wpAny_bind (wpAny_letGo (wpAny_pure (wpAny_pure ?_)))
  refine wpAny_bind (wpAny_seqItems kO₅ rfl ?_)
  refine wpAny_bind (wpAny_newTuple ?_)
  have ksz : p₅.objs.size = s.heap.objs.size := by rw [ks₅.1, ks₄.1, ks₃.1, ks₂.1, ks₁.1]
  have kz₅ : IsZipG p₅ zp tI tO .ellipsis f := ks₅.extBut _ _ Ap.TOz.symm (ks₄.extBut _ _ Ap.i2z.symm (ks₃.extBut _ _ Ap.TOz.symm (ks₂.extBut _ _ Ap.i1z.symm kz₁)))
  have kk₅ : ∀ c o, c ≠ zp → c ≠ tO → c ≠ j1 → c ≠ j2 → s.heap.get? c = some o → p₅.get? c = some o := fun c o c1 c2 c3 c4 e =>
    ks₅.extBut _ _ c2 (ks₄.extBut _ _ c4 (ks₃.extBut _ _ c2 (ks₂.extBut _ _ c3 (ks₁.extBut _ _ c1 e))))
  have g1₅ : p₅.IsListIter j1 a1 (n1 + 1) := ((g1₂.extBut ks₃.extBut Ap.TOi1.symm).extBut ks₄.extBut Ap.i12).extBut ks₅.extBut Ap.TOi1.symm
  have g2₅ : p₅.IsListIter j2 a2 (n2 + 1) := g2₄.extBut ks₅.extBut Ap.TOi2.symm
  have kzl : zp < p₅.objs.size := Heap.lt_size kz₅
  have kOl : tO < p₅.objs.size := Heap.lt_size kO₅
  have q1l : j1 < p₅.objs.size := by obtain ⟨_, e, _⟩ := g1₅; exact Heap.lt_size e
  have q2l : j2 < p₅.objs.size := by obtain ⟨_, e, _⟩ := g2₅; exact Heap.lt_size e
  show wpAny _ _ (Builtin.SmallTypes.ownedTupleHandOut (.ref zp) (.ref p₅.objs.size) >>= _) _ _ _
  refine wpAny_bind ?_
  unfold Builtin.SmallTypes.ownedTupleHandOut
  have kz₆ : IsZipG (p₅.push { cls := .type "tuple", data := .seq #[x, y] }) zp tI tO .ellipsis f := Heap.get?_push_of_some _ kz₅
  refine wpAny_bind (wpAny_setField_rec kz₆ (by simp) fun p₇ kz₇ ks₇ => ?_)
  replace kz₇ : IsZipG p₇ zp tI tO (rawInt p₅.objs.size) f := kz₇
  refine wpAny_setField_rec kz₇ (by simp) fun p₈ kz₈ ks₈ => ?_
  replace kz₈ : IsZip p₈ zp tI tO (rawInt p₅.objs.size) := kz₈
  have upw : ∀ c o, c ≠ zp → p₅.get? c = some o → p₈.get? c = some o := fun c o c1 e => ks₈.extBut _ _ c1 (ks₇.extBut _ _ c1 (Heap.get?_push_of_some _ e))
  have kT₈ : IsPair p₈ p₅.objs.size x y := ks₈.extBut _ _ (Nat.ne_of_gt kzl) (ks₇.extBut _ _ (Nat.ne_of_gt kzl) (Heap.get?_push_size _ rfl))
  have kz8 : p₈.objs.size = p₅.objs.size + 1 := by rw [ks₈.1, ks₇.1, Heap.size_push]
  rw [ksz] at kz₈ kT₈ kz8
  refine wpAny_pure ⟨_, rfl, ?_⟩
  show Q (.ref p₅.objs.size) _
  rw [ksz]
  exact kQ p₈ kz₈ (upw _ _ Ap.TOz kO₅) (g1₅.at fun o e => upw _ o Ap.i1z e) (g2₅.at fun o e => upw _ o Ap.i2z e) kT₈ kz8 fun c o c1 c2 c3 c4 e => upw c o c1 (kk₅ c o c1 c2 c3 c4 e)
theorem zipF_end {zp tI tO j1 j2 a1 a2 : Addr} {n1 n2 : Nat} {us vs : Array Value} {a b : Value} {Q : Fin → Shared → Prop} (kh : A.handled = none) (Ap : ZipApart zp tI tO j1 j2 a1 a2)
    {f0 : Value} {f : Bool} (kz : IsZipG s.heap zp tI tO f0 f) (kf : ∀ {R : Bool → Shared → Prop}, R true s → wpAny (model prog w) A (Builtin.SmallTypes.ownedTupleIsFree (.ref zp)) R E s) (kI : IsPair s.heap tI (.ref j1) (.ref j2)) (kO : IsPair s.heap tO a b)
    (g1 : s.heap.IsListIter j1 a1 n1) (g2 : s.heap.IsListIter j2 a2 n2) (m1 : s.heap.IsList a1 us) (m2 : s.heap.IsList a2 vs) (kn : us[n1]? = none ∨ vs[n2]? = none)
    (kE : ∀ h' e, (∀ c o, c ≠ zp → c ≠ tO → c ≠ j1 → c ≠ j2 → s.heap.get? c = some o → h'.get? c = some o) → (∃ o, h'.get? e = some o ∧ o.cls = .type "StopIteration") → E (.ref e) { s with heap := h' }) :
    wpAny (model prog w) A (Builtin.«zip.__next__» ⟨[.ref zp], []⟩) Q E s := by
  show wpAny _ _ (field (.ref zp) 2 >>= _) _ _ _
  refine wpAny_bind (wpAny_field kz rfl (x := .bool false) rfl ?_)
  show wpAny _ _ (field (.ref zp) 3 >>= _) _ _ _
  refine wpAny_bind (wpAny_field kz rfl (x := .ref tI) rfl ?_)
  refine wpAny_bind (wpAny_seqItems kI rfl ?_)
  show wpAny _ _ (Builtin.SmallTypes.ownedTupleIsFree (.ref zp) >>= _) _ _ _
  refine wpAny_bind (kf ?_)
  simp only [if_true]
  refine wpAny_bind (wpAny_rule ?_)
  refine wpAny_bind (wpAny_field kz rfl (x := .ref tO) rfl ?_)
  refine wpAny_bind (wpAny_setField_rec kz (by simp) fun p₁ kz₁ ks₁ => ?_)
  replace kz₁ : IsZipG p₁ zp tI tO .ellipsis f := kz₁
  refine wpAny_bind ?_
  simp only [List.zipIdx_cons, List.zipIdx_nil, List.forIn_cons, List.forIn_nil]
  refine wpAny_bind (wpAny_bind (wpAny_onRaise ?_))
  show wpAny _ _ (Builtin.SmallTypes.nextOf (.ref j1) >>= _) _ _ _
  cases ex : us[n1]? with
  | none =>
    refine wpAny_bind (wpAny_nextOf_list_end kh (g1.extBut ks₁.extBut Ap.i1z) (m1.extBut ks₁.extBut Ap.l1z) ex fun p₂ e ks₂ he => ?_)
    obtain ⟨oe, koe, kce⟩ := he
    have kz₂ : IsZipG p₂ zp tI tO .ellipsis f := ks₂ _ _ Ap.i1z.symm kz₁
    have kez : e ≠ zp := fun x => by subst x; rw [kz₂] at koe; cases koe; simp at kce
    refine wpAny_setField_rec kz₂ (by simp) fun p₃ _ ks₃ => kE p₃ e (fun c o c1 _ c3 _ x => ks₃.extBut _ _ c1 (ks₂ _ _ c3 (ks₁.extBut _ _ c1 x))) ⟨oe, ks₃.extBut _ _ kez koe, kce⟩
  | some x =>
    have ey : vs[n2]? = none := by rcases kn with h | h; rw [ex] at h; cases h; exact h
    refine wpAny_bind (wpAny_nextOf_list_item (g1.extBut ks₁.extBut Ap.i1z) (m1.extBut ks₁.extBut Ap.l1z) ex fun p₂ g1₂ ks₂ => wpAny_pure ?_)
    have kO₂ : IsPair p₂ tO a b := ks₂.extBut _ _ Ap.TOi1 (ks₁.extBut _ _ Ap.TOz kO)
    refine wpAny_bind (wpAny_seqItems kO₂ rfl ?_)
    refine wpAny_bind (wpAny_updateSeq_pair kO₂ fun p₃ kO₃ ks₃ => ?_)
    refine wpAny_bind (wpAny_letGo (wpAny_pure ?_))
    refine wpAny_bind (wpAny_bind (wpAny_onRaise ?_))
    show wpAny _ _ (Builtin.SmallTypes.nextOf (.ref j2) >>= _) _ _ _
    refine wpAny_bind (wpAny_nextOf_list_end kh (((g2.extBut ks₁.extBut Ap.i2z).extBut ks₂.extBut Ap.i12.symm).extBut ks₃.extBut Ap.TOi2.symm)
      (((m2.extBut ks₁.extBut Ap.l2z).extBut ks₂.extBut Ap.l2i1).extBut ks₃.extBut Ap.l2TO) ey fun p₄ e ks₄ he => ?_)
    obtain ⟨oe, koe, kce⟩ := he
    have kz₄ : IsZipG p₄ zp tI tO .ellipsis f := ks₄ _ _ Ap.i2z.symm (ks₃.extBut _ _ Ap.TOz.symm (ks₂.extBut _ _ Ap.i1z.symm kz₁))
    have kez : e ≠ zp := fun x => by subst x; rw [kz₄] at koe; cases koe; simp at kce
    refine wpAny_setField_rec kz₄ (by simp) fun p₅ _ ks₅ => kE p₅ e (fun c o c1 c2 c3 c4 x => ks₅.extBut _ _ c1 (ks₄ _ _ c4 (ks₃.extBut _ _ c2 (ks₂.extBut _ _ c3 (ks₁.extBut _ _ c1 x))))) ⟨oe, ks₅.extBut _ _ kez koe, kce⟩
theorem next_zipF {zp tI tO j1 j2 a1 a2 : Addr} {n1 n2 : Nat} {us vs : Array Value} {x y a b : Value} {R : Option Value → Shared → Prop} (Ap : ZipApart zp tI tO j1 j2 a1 a2)
    {f0 : Value} {f : Bool} (kz : IsZipG s.heap zp tI tO f0 f) (f0k : (f0 = .none) ∨ ∃ T : Addr, f0 = rawInt T) (kI : IsPair s.heap tI (.ref j1) (.ref j2)) (kO : IsPair s.heap tO a b)
    (g1 : s.heap.IsListIter j1 a1 n1) (g2 : s.heap.IsListIter j2 a2 n2) (m1 : s.heap.IsList a1 us) (m2 : s.heap.IsList a2 vs) (ex : us[n1]? = some x) (ey : vs[n2]? = some y)
    (kR : ∀ h' f0 f, IsZipG h' zp tI tO f0 f → ((f0 = .none) ∨ ∃ T : Addr, f0 = rawInt T) → (∃ a b, IsPair h' tO a b) → h'.IsListIter j1 a1 (n1 + 1) → h'.IsListIter j2 a2 (n2 + 1) → IsPair h' s.heap.objs.size x y →
      (∀ c o, c ≠ zp → c ≠ tO → c ≠ j1 → c ≠ j2 → s.heap.get? c = some o → h'.get? c = some o) → R (some (.ref s.heap.objs.size)) { s with heap := h' }) :
    wpAny (model prog w) A (pyNext (.ref zp)) R E s := by
  have ty : s.TypeIs (.ref zp) "zip" := ⟨_, kz, rfl⟩
  have go : ∀ (kf : ∀ {R : Bool → Shared → Prop} {E : Value → Shared → Prop}, R true s → wpAny (model prog w) A.in1 (Builtin.SmallTypes.ownedTupleIsFree (.ref zp)) R E s), wpAny (model prog w) A (pyNext (.ref zp)) R E s := fun kf => by
    unfold pyNext
    exact wpAny_bind (wpAny_attempt (wpAny_callSpecial?_slot (name := Str.ofString "__next__") ty F.slot_zip_next (wpAny_call_entry F.slot_zip_next ty F.entry_zip_next
      (zipF_item Ap kz kf kI kO g1 g2 m1 m2 ex ey fun h' b1 b2 b3 b4 b5 b6 b7 => wpAny_pure (kR h' _ _ b1 (.inr ⟨_, rfl⟩) ⟨_, _, b2⟩ b3 b4 b5 b7)) (F.args_zip_next_1 _))))
  rcases f0k with rfl | ⟨T, rfl⟩
  · refine go fun {R E} q => ?_
    unfold Builtin.SmallTypes.ownedTupleIsFree
    exact wpAny_bind (wpAny_field kz rfl (x := .none) rfl (wpAny_pure q))
  · cases eT : s.heap.get? T with
    | some oT =>
      refine wpAny_pyNext_zip_item_held Ap kz eT kI g1 g2 m1 m2 ex ey fun h' b1 b2 b3 b4 b5 b6 => ?_
      exact kR h' _ _ b1 (.inr ⟨T, rfl⟩) ⟨a, b, b6 _ _ Ap.TOz Ap.TOi1 Ap.TOi2 kO⟩ b2 b3 b4 fun c o c1 _ c3 c4 e => b6 c o c1 c3 c4 e
    | none =>
      refine go fun {R E} q => ?_
      unfold Builtin.SmallTypes.ownedTupleIsFree
      refine wpAny_bind (wpAny_field kz rfl (x := rawInt T) rfl ?_)
      show wpAny _ _ (loadIfAlive ((T : Int).toNat) >>= _) _ _ _
      rw [Int.toNat_natCast]
      refine wpAny_bind (gone_ok eT ?_)
      exact wpAny_pure q
theorem end_zipF {zp tI tO j1 j2 a1 a2 : Addr} {n1 n2 : Nat} {us vs : Array Value} {a b : Value} {R : Option Value → Shared → Prop} (kh : A.handled = none) (Ap : ZipApart zp tI tO j1 j2 a1 a2)
    {f0 : Value} {f : Bool} (kz : IsZipG s.heap zp tI tO f0 f) (f0k : (f0 = .none) ∨ ∃ T : Addr, f0 = rawInt T) (kI : IsPair s.heap tI (.ref j1) (.ref j2)) (kO : IsPair s.heap tO a b)
    (g1 : s.heap.IsListIter j1 a1 n1) (g2 : s.heap.IsListIter j2 a2 n2) (m1 : s.heap.IsList a1 us) (m2 : s.heap.IsList a2 vs) (kn : us[n1]? = none ∨ vs[n2]? = none)
    (kR : ∀ h', (∀ c o, c ≠ zp → c ≠ tO → c ≠ j1 → c ≠ j2 → s.heap.get? c = some o → h'.get? c = some o) → R none { s with heap := h' }) :
    wpAny (model prog w) A (pyNext (.ref zp)) R E s := by
  have ty : s.TypeIs (.ref zp) "zip" := ⟨_, kz, rfl⟩
  have go : ∀ (kf : ∀ {R : Bool → Shared → Prop} {E : Value → Shared → Prop}, R true s → wpAny (model prog w) A.in1 (Builtin.SmallTypes.ownedTupleIsFree (.ref zp)) R E s), wpAny (model prog w) A (pyNext (.ref zp)) R E s := fun kf => by
    unfold pyNext
    refine wpAny_bind (wpAny_attempt (wpAny_callSpecial?_slot (name := Str.ofString "__next__") ty F.slot_zip_next
      (wpAny_call_entry F.slot_zip_next ty F.entry_zip_next (zipF_end (by simpa using kh) Ap kz kf kI kO g1 g2 m1 m2 kn fun h' e kk ke => ?_) (F.args_zip_next_1 _))))
    obtain ⟨oe, koe, kce⟩ := ke
    exact wpAny_bind (wpAny_isInstance (T := "StopIteration") (b := true) ⟨oe, koe, kce⟩ isSubtype_stop (wpAny_pure (kR _ kk)))
  rcases f0k with rfl | ⟨T, rfl⟩
  · refine go fun {R E} q => ?_
    unfold Builtin.SmallTypes.ownedTupleIsFree
    exact wpAny_bind (wpAny_field kz rfl (x := .none) rfl (wpAny_pure q))
  · cases eT : s.heap.get? T with
    | some oT => exact wpAny_pyNext_zip_end_held kh Ap kz eT kI g1 g2 m1 m2 kn fun h' b6 => kR h' fun c o c1 _ c3 c4 e => b6 c o c1 c3 c4 e
    | none =>
      refine go fun {R E} q => ?_
      unfold Builtin.SmallTypes.ownedTupleIsFree
      refine wpAny_bind (wpAny_field kz rfl (x := rawInt T) rfl ?_)
      show wpAny _ _ (loadIfAlive ((T : Int).toNat) >>= _) _ _ _
      rw [Int.toNat_natCast]
      refine wpAny_bind (gone_ok eT ?_)
      exact wpAny_pure q
end
end K27
end
section
set_option Elab.async false
set_option linter.all false
set_option maxRecDepth 100000
set_option maxHeartbeats 4000000
namespace K27
open PySem PySem.Spec PyProof.Rows L2
theorem vals_get : ∀ {xs : List V} {us : List Value} {i : Nat} {u : Value}, Vals xs us → us[i]? = some u → ∃ x, xs[i]? = some x ∧ RelV x u
  | _, _, _, _, .nil, e => by simp at e
  | _, _, 0, _, .cons r _, e => by
    simp at e
    exact ⟨_, rfl, e ▸ r⟩
  | _, _, i + 1, _, .cons _ t, e => by
    obtain ⟨x, e1, r⟩ := vals_get (i := i) t (by simpa using e)
    exact ⟨x, by simpa using e1, r⟩
theorem iter_zipG {prog : Program} {w : World} {A : Around} {E : Value → Shared → Prop} {s : Shared} {z tI tO : Addr} {f0 : Value} {f : Bool} {R : Value → Shared → Prop} (kz : IsZipG s.heap z tI tO f0 f) (q : R (.ref z) s) : wpAny (model prog w) A (pyIter (.ref z)) R E s := by
  have ty : s.TypeIs (.ref z) "zip" := ⟨_, kz, rfl⟩
  refine wpAny_pyIter_slot ty F.slot_zip_iter (wpAny_call_entry F.slot_zip_iter ty F.entry_zip_iter (?_ : wpAny _ _ (ret (.ref z)) _ _ s) (F.args_zip_iter_1 _))
  exact wpAny_pure ⟨_, rfl, "zip", _, ty, F.slot_zip_next.lookup, q⟩
/-! what zip and enumerate draw from: a list, a tuple, a text -/
inductive Src where
  | lst (a : Addr)
  | tup (a : Addr)
  | txt (z : Str)
def Src.is (K : PySem.W.Frag) (H : Hp) : Src → List V → Prop
  | .lst a, xs => SqL K H a xs
  | .tup a, xs => SqT K H a xs
  | .txt z, xs => xs = signs z
def Src.st : Src → Addr → Nat → Heap → Prop
  | .lst a, it, i, h => h.IsListIter it a i
  | .tup a, it, i, h => h.IsTupleIter it a i
  | .txt z, it, i, h => ∃ t, h.IsStrIter it (strIterType z) z t i
def Src.has : Src → Addr → Prop
  | .lst a, c => c = a
  | .tup a, c => c = a
  | .txt _, _ => False
def Src.v : Src → V
  | .lst a => .ref a
  | .tup a => .ref a
  | .txt z => .str z
def Src.far (r : Src) (ch : List Addr) : Prop := ∀ c, r.has c → c ∉ ch
structure Sst (r : Src) (it : Addr) (i : Nat) (h : Heap) : Prop where
  q : r.st it i h
theorem Sst.own {r : Src} {it : Addr} {i : Nat} {h : Heap} (q : Sst r it i h) : ∃ o, h.get? it = some o ∧ ∀ v, o.data ≠ .cell v := by
  obtain ⟨q⟩ := q
  cases r with
  | lst a =>
    obtain ⟨o, e, _, d⟩ := q
    exact ⟨o, e, fun v w => by rw [d] at w; cases w⟩
  | tup a =>
    obtain ⟨o, e, _, d⟩ := q
    exact ⟨o, e, fun v w => by rw [d] at w; cases w⟩
  | txt z =>
    obtain ⟨t, o, e, _, d⟩ := q
    exact ⟨o, e, fun v w => by rw [d] at w; cases w⟩
theorem Sst.keep {r : Src} {it : Addr} {i : Nat} {h h' : Heap} (q : Sst r it i h) (k : ∀ o, h.get? it = some o → h'.get? it = some o) : Sst r it i h' := by
  obtain ⟨q⟩ := q
  refine ⟨?_⟩
  cases r with
  | lst a => exact let ⟨o, e, w⟩ := q; ⟨o, k o e, w⟩
  | tup a => exact let ⟨o, e, w⟩ := q; ⟨o, k o e, w⟩
  | txt z => exact let ⟨t, o, e, w⟩ := q; ⟨t, o, k o e, w⟩
theorem Src.inj {X : Cx} {pins : List (Addr × Obj)} {σ : L2.St} {H : Hp} {s : Shared} {r : Src} {xs ys : List V} (I : Inv X pins σ H s) (a : r.is X.K H xs) (b : r.is X.K H ys) : xs = ys := by
  cases r with
  | lst _ => exact I.list_inj a b
  | tup _ => exact I.tuple_inj a b
  | txt _ => exact Eq.trans a (Eq.symm b)
theorem Src.draw {X : Cx} {pins : List (Addr × Obj)} {σ : L2.St} {H : Hp} {s : Shared} {r : Src} {xs : List V} {it : Addr} {i : Nat} {ch : List Addr} (I : Inv X pins σ H s) (hc : X.calm = true) (q : r.is X.K H xs) (w : Sst r it i s.heap) (hi : it ∈ ch) (hf : r.far ch) :
    ∃ fp P St, Draws X.prog X.w X.A.in1 it fp xs.length P St ∧ it ∈ fp ∧ (∀ c ∈ fp, c = it ∨ r.has c) ∧ St i s.heap ∧ (∀ i h, St i h → Sst r it i h) ∧ ∀ i v, P i v → ∃ x, xs[i]? = some x ∧ RelV x v := by
  have hh : X.A.in1.handled = none := by simpa using I.ok.hd hc
  obtain ⟨w⟩ := w
  cases r with
  | lst a =>
    obtain ⟨its, rv, p, _⟩ := I.list q
    have hl : its.toArray.size = xs.length := by rw [List.size_toArray, rv.length]
    have ne : a ≠ it := fun e => hf a rfl (e ▸ hi)
    have D := Draws.list (prog := X.prog) (w := X.w) hh it a ne its.toArray
    rw [hl] at D
    refine ⟨[it, a], _, _, D, by simp, fun c hm => by simpa [Src.has] using hm, ⟨w, p.isList⟩, fun i h e => ⟨e.1⟩, fun i v e => ?_⟩
    exact vals_get rv (by simpa using e)
  | tup a =>
    obtain ⟨its, rv, p, _⟩ := I.tuple q
    have hl : its.toArray.size = xs.length := by rw [List.size_toArray, rv.length]
    have ne : a ≠ it := fun e => hf a rfl (e ▸ hi)
    have D := Draws.tuple (prog := X.prog) (w := X.w) hh it a ne its.toArray
    rw [hl] at D
    refine ⟨[it, a], _, _, D, by simp, fun c hm => by simpa [Src.has] using hm, ⟨w, p⟩, fun i h e => ⟨e.1⟩, fun i v e => ?_⟩
    exact vals_get rv (by simpa using e)
  | txt z =>
    obtain ⟨t, w⟩ := w
    have q : xs = signs z := q
    subst q
    have D := Draws.text (prog := X.prog) (w := X.w) hh it z t
    have hl : z.cps.size = (signs z).length := by unfold signs; rw [List.length_map, Array.length_toList]
    rw [hl] at D
    refine ⟨[it], _, _, D, by simp, fun c hm => by simpa [Src.has] using hm, w, fun i h e => ⟨⟨t, e⟩⟩, fun i v e => ?_⟩
    obtain ⟨c, u, e1, rfl⟩ := e
    refine ⟨.str ⟨#[c]⟩, ?_, ⟨u, rfl⟩⟩
    unfold signs
    rw [List.getElem?_map, Array.getElem?_toList, e1]
    rfl
theorem pair_ok {P : Program} {w : World} {h : Heap} {H : Hp} {T : Addr} {x y : V} {u v : Value} (r1 : RelV x u) (r2 : RelV y v) (e : h.get? T = some { cls := .type "tuple", data := .seq #[u, v] }) :
    ObjOk P w (upd H T (.frz { cls := .type "tuple", data := .seq #[u, v] } (.tup [x, y]))) h T (.frz { cls := .type "tuple", data := .seq #[u, v] } (.tup [x, y])) :=
  ⟨e, by show 2 ≤ sizeLine; decide, [u, v], .cons r1 (.cons r2 .nil), ⟨_, e, rfl, _, rfl⟩⟩
/-- five cells that lie apart -/
structure Five (z tI tO j k : Addr) : Prop where
  a1 : tI ≠ z
  a2 : tO ≠ z
  a3 : j ≠ z
  a4 : k ≠ z
  a5 : tI ≠ tO
  a6 : tI ≠ j
  a7 : tI ≠ k
  a8 : tO ≠ j
  a9 : tO ≠ k
  a10 : j ≠ k
theorem five_new (n : Nat) : Five (n + 4) (n + 2) (n + 3) n (n + 1) := by
  refine ⟨?_, ?_, ?_, ?_, ?_, ?_, ?_, ?_, ?_, ?_⟩ <;> (show (_ : Nat) ≠ _; omega)
/-- pairs of the items of two sources -/
def Izz (K : PySem.W.Frag) (a b : Src) : It :=
  ⟨fun i H => ∃ xs ys : List V, a.is K H xs ∧ b.is K H ys ∧ i < xs.length ∧ i < ys.length,
    fun i H v H' => ∃ T o x y, v = .ref T ∧ H T = none ∧ Obj.dict o = none ∧ H' = upd H T (.frz o (.tup [x, y])) ∧ (∀ xs, a.is K H xs → xs[i]? = some x) ∧ ∀ ys, b.is K H ys → ys[i]? = some y,
    fun i H => ∃ xs ys : List V, a.is K H xs ∧ b.is K H ys ∧ i ≤ xs.length ∧ i ≤ ys.length ∧ (i = xs.length ∨ i = ys.length)⟩
theorem turn_zz {P : Program} {w : World} {K : PySem.W.Frag} {elts : List Expr} {kk : Nat} {tpos : Pos} {a b : Src} {z tI tO j k : Addr} (F : Five z tI tO j k) (fa : a.far [z, tI, tO, j, k]) (fb : b.far [z, tI, tO, j, k]) :
    Turn P w K (.Tuple elts kk tpos) (Izz K a b) [z, tI, tO, j, k] z (fun i h => IsZip h z tI tO .none ∧ IsPair h tI (.ref j) (.ref k) ∧ (∃ x y, IsPair h tO x y) ∧ Sst a j i h ∧ Sst b k i h) where
  mem := by simp
  obj := fun i h q c hm => by
    obtain ⟨kz, kI, ⟨x, y, kO⟩, g1, g2⟩ := q
    have e : c = z ∨ c = tI ∨ c = tO ∨ c = j ∨ c = k := by simpa using hm
    rcases e with rfl | rfl | rfl | rfl | rfl
    · exact ⟨_, kz, fun v e => nomatch e⟩
    · exact ⟨_, kI, fun v e => nomatch e⟩
    · exact ⟨_, kO, fun v e => nomatch e⟩
    · exact g1.own
    · exact g2.own
  keep := fun i h h' q kp => by
    obtain ⟨kz, kI, ⟨x, y, kO⟩, g1, g2⟩ := q
    exact ⟨kp z (by simp) _ kz, kp tI (by simp) _ kI, ⟨x, y, kp tO (by simp) _ kO⟩, g1.keep fun o e => kp j (by simp) o e, g2.keep fun o e => kp k (by simp) o e⟩
  item := by
    intro X eP ew eK hc i pins s σ H E I hf q hg
    subst eP ew eK
    obtain ⟨kz, kI, ⟨x0, y0, kO⟩, g1, g2⟩ := q
    obtain ⟨xs, ys, qa, qb, la, lb⟩ := hg
    obtain ⟨fp1, P1, S1, D1, m1, b1, t1, r1, v1⟩ := Src.draw (ch := [z, tI, tO, j, k]) I hc qa g1 (by simp) fa
    obtain ⟨fp2, P2, S2, D2, m2, b2, t2, r2, v2⟩ := Src.draw (ch := [z, tI, tO, j, k]) I hc qb g2 (by simp) fb
    have out1 : ∀ c, c ∈ [z, tI, tO, j, k] → c ≠ j → c ∉ fp1 := fun c hm hn e => (b1 c e).elim hn fun g => fa c g hm
    have out2 : ∀ c, c ∈ [z, tI, tO, j, k] → c ≠ k → c ∉ fp2 := fun c hm hn e => (b2 c e).elim hn fun g => fb c g hm
    have S : ZipSep2 z tI tO j k fp1 fp2 := ⟨F.a1, F.a2, F.a5, F.a6, m1, out1 z (by simp) F.a3.symm, out1 tO (by simp) F.a8, F.a7, m2, out2 z (by simp) F.a4.symm, out2 tO (by simp) F.a9, out2 j (by simp) F.a10, out1 k (by simp) F.a10.symm⟩
    have zl : z < s.heap.objs.size := Heap.lt_size kz
    refine wpAny_pyNext_zipD2_item S D1 D2 kz kI kO t1 t2 la lb fun u1 u2 h' tk p1 p2 kz' kO' n1 n2 kT ksz kp => ?_
    refine ⟨_, rfl, wpAny_letOwnedTupleGo_zip (s := { s with heap := h', toks := tk }) kz' fun h2 kz2 sb => ?_⟩
    obtain ⟨x, ex, rx⟩ := v1 _ _ p1
    obtain ⟨y, ey, ry⟩ := v2 _ _ p2
    have kT2 : h2.get? s.heap.objs.size = some { cls := .type "tuple", data := .seq #[u1, u2] } := (sb.2 _ (Nat.ne_of_gt zl)).trans kT
    have I1 : Inv X pins σ _ { s with heap := h2, toks := tk } := I.turnedNew (ch := [z, tI, tO, j, k]) (T := s.heap.objs.size) (fun c o nb e => by
      simp only [List.mem_cons, List.not_mem_nil, or_false, not_or] at nb
      exact (sb.2 c nb.1).trans (kp c o nb.1 nb.2.2.1 nb.2.2.2.1 nb.2.2.2.2 e)) hf (Nat.le_refl _) (pair_ok rx ry kT2)
    refine ⟨.ref s.heap.objs.size, _, I1, rfl, ⟨_, _, x, y, rfl, I.hok.fresh (Nat.le_refl _), rfl, rfl, fun l hl => by rw [Src.inj I hl qa]; exact ex, fun l hl => by rw [Src.inj I hl qb]; exact ey⟩, ⟨kz2, ?_, ⟨u1, u2, ?_⟩, ?_, ?_⟩, fun c hm => ?_⟩
    · exact (sb.2 _ F.a1).trans (kp _ _ F.a1 F.a5 F.a6 F.a7 kI)
    · exact (sb.2 _ F.a2).trans kO'
    · exact (r1 _ _ n1).keep fun o e => (sb.2 _ F.a3).trans e
    · exact (r2 _ _ n2).keep fun o e => (sb.2 _ F.a4).trans e
    · rw [upd_ne]
      · exact (hf c hm).1
      · have e : c = z ∨ c = tI ∨ c = tO ∨ c = j ∨ c = k := by simpa using hm
        rcases e with rfl | rfl | rfl | rfl | rfl
        · exact Nat.ne_of_lt zl
        · exact Nat.ne_of_lt (Heap.lt_size kI)
        · exact Nat.ne_of_lt (Heap.lt_size kO)
        · obtain ⟨_, e1, _⟩ := g1.own
          exact Nat.ne_of_lt (Heap.lt_size e1)
        · obtain ⟨_, e1, _⟩ := g2.own
          exact Nat.ne_of_lt (Heap.lt_size e1)
  done := by
    intro X eP ew eK hc i pins s σ H E I hf q hg
    subst eP ew eK
    obtain ⟨kz, kI, ⟨x0, y0, kO⟩, g1, g2⟩ := q
    obtain ⟨xs, ys, qa, qb, la, lb, le⟩ := hg
    obtain ⟨fp1, P1, S1, D1, m1, b1, t1, r1, v1⟩ := Src.draw (ch := [z, tI, tO, j, k]) I hc qa g1 (by simp) fa
    obtain ⟨fp2, P2, S2, D2, m2, b2, t2, r2, v2⟩ := Src.draw (ch := [z, tI, tO, j, k]) I hc qb g2 (by simp) fb
    have out1 : ∀ c, c ∈ [z, tI, tO, j, k] → c ≠ j → c ∉ fp1 := fun c hm hn e => (b1 c e).elim hn fun g => fa c g hm
    have out2 : ∀ c, c ∈ [z, tI, tO, j, k] → c ≠ k → c ∉ fp2 := fun c hm hn e => (b2 c e).elim hn fun g => fb c g hm
    have S : ZipSep2 z tI tO j k fp1 fp2 := ⟨F.a1, F.a2, F.a5, F.a6, m1, out1 z (by simp) F.a3.symm, out1 tO (by simp) F.a8, F.a7, m2, out2 z (by simp) F.a4.symm, out2 tO (by simp) F.a9, out2 j (by simp) F.a10, out1 k (by simp) F.a10.symm⟩
    refine wpAny_pyNext_zipD2_end S D1 D2 kz kI kO t1 t2 la lb le fun h' tk kp => ⟨rfl, I.turnedL (ch := [z, tI, tO, j, k]) (fun c o nb e => ?_) hf⟩
    simp only [List.mem_cons, List.not_mem_nil, or_false, not_or] at nb
    exact kp c o nb.1 nb.2.2.1 nb.2.2.2.1 nb.2.2.2.2 e
  self := fun A i s Q E q r => wpAny_pyIter_zip q.1 r
/-- the same of two lists, to one name -/
theorem turn_zN {P : Program} {w : World} {K : PySem.W.Frag} {nx : Str} {tpos : Pos} {a b : Addr} {z tI tO j k : Addr} (Ap : ZipApart z tI tO j k a b) :
    Turn P w K (.Name nx tpos) (Izz K (.lst a) (.lst b)) [z, tI, tO, j, k] z (fun i h => (∃ f0 f, IsZipG h z tI tO f0 f ∧ ((f0 = .none) ∨ ∃ T : Addr, f0 = rawInt T)) ∧ IsPair h tI (.ref j) (.ref k) ∧ (∃ x y, IsPair h tO x y) ∧ h.IsListIter j a i ∧ h.IsListIter k b i) where
  mem := by simp
  obj := fun i h q c hm => by
    obtain ⟨⟨f0, f, kz, _⟩, kI, ⟨x, y, kO⟩, g1, g2⟩ := q
    have e : c = z ∨ c = tI ∨ c = tO ∨ c = j ∨ c = k := by simpa using hm
    rcases e with rfl | rfl | rfl | rfl | rfl
    · exact ⟨_, kz, fun v e => nomatch e⟩
    · exact ⟨_, kI, fun v e => nomatch e⟩
    · exact ⟨_, kO, fun v e => nomatch e⟩
    · exact Sst.own (r := .lst a) ⟨g1⟩
    · exact Sst.own (r := .lst b) ⟨g2⟩
  keep := fun i h h' q kp => by
    obtain ⟨⟨f0, f, kz, kf⟩, kI, ⟨x, y, kO⟩, g1, g2⟩ := q
    exact ⟨⟨f0, f, kp z (by simp) _ kz, kf⟩, kp tI (by simp) _ kI, ⟨x, y, kp tO (by simp) _ kO⟩, g1.at fun o e => kp j (by simp) o e, g2.at fun o e => kp k (by simp) o e⟩
  item := by
    intro X eP ew eK hc i pins s σ H E I hf q hg
    subst eP ew eK
    obtain ⟨⟨f0, f, kz, kf⟩, kI, ⟨x0, y0, kO⟩, g1, g2⟩ := q
    obtain ⟨xs, ys, qa, qb, la, lb⟩ := hg
    obtain ⟨its, rv, pa, _⟩ := I.list qa
    obtain ⟨its2, rv2, pb, _⟩ := I.list qb
    have ex : xs[i]? = some xs[i] := List.getElem?_eq_getElem la
    have ey : ys[i]? = some ys[i] := List.getElem?_eq_getElem lb
    obtain ⟨u1, eu1, rx⟩ := rv.get ex
    obtain ⟨u2, eu2, ry⟩ := rv2.get ey
    have zl : z < s.heap.objs.size := Heap.lt_size kz
    refine next_zipF Ap kz kf kI kO g1 g2 pa.isList pb.isList (x := u1) (y := u2) (by simpa using eu1) (by simpa using eu2) fun h' f1 f2 kz' kf' kO' n1 n2 kT kp => ?_
    refine ⟨_, rfl, wpAny_pure ?_⟩
    have I1 : Inv X pins σ _ { s with heap := h' } := I.turnedNew (t' := s.toks) (ch := [z, tI, tO, j, k]) (T := s.heap.objs.size) (fun c o nb e => by
      simp only [List.mem_cons, List.not_mem_nil, or_false, not_or] at nb
      exact kp c o nb.1 nb.2.2.1 nb.2.2.2.1 nb.2.2.2.2 e) hf (Nat.le_refl _) (pair_ok rx ry kT)
    refine ⟨.ref s.heap.objs.size, _, I1, rfl, ⟨_, _, _, _, rfl, I.hok.fresh (Nat.le_refl _), rfl, rfl, fun l hl => by rw [I.list_inj hl qa]; exact ex, fun l hl => by rw [I.list_inj hl qb]; exact ey⟩, ⟨⟨_, _, kz', kf'⟩, kp _ _ Ap.TIz Ap.TITO Ap.TIi1 Ap.TIi2 kI, kO', n1, n2⟩, fun c hm => ?_⟩
    rw [upd_ne]
    · exact (hf c hm).1
    · have e : c = z ∨ c = tI ∨ c = tO ∨ c = j ∨ c = k := by simpa using hm
      rcases e with rfl | rfl | rfl | rfl | rfl
      · exact Nat.ne_of_lt zl
      · exact Nat.ne_of_lt (Heap.lt_size kI)
      · exact Nat.ne_of_lt (Heap.lt_size kO)
      · obtain ⟨_, e1, _⟩ := g1
        exact Nat.ne_of_lt (Heap.lt_size e1)
      · obtain ⟨_, e1, _⟩ := g2
        exact Nat.ne_of_lt (Heap.lt_size e1)
  done := by
    intro X eP ew eK hc i pins s σ H E I hf q hg
    subst eP ew eK
    obtain ⟨⟨f0, f, kz, kf⟩, kI, ⟨x0, y0, kO⟩, g1, g2⟩ := q
    obtain ⟨xs, ys, qa, qb, la, lb, le⟩ := hg
    obtain ⟨its, rv, pa, _⟩ := I.list qa
    obtain ⟨its2, rv2, pb, _⟩ := I.list qb
    have l1 := rv.length
    have l2 := rv2.length
    have no : its.toArray[i]? = none ∨ its2.toArray[i]? = none := by
      rcases le with e | e
      · exact .inl (by simp; omega)
      · exact .inr (by simp; omega)
    refine end_zipF (I.ok.hd hc) Ap kz kf kI kO g1 g2 pa.isList pb.isList no fun h' kp => ⟨rfl, I.turnedL (t' := s.toks) (ch := [z, tI, tO, j, k]) (fun c o nb e => ?_) hf⟩
    simp only [List.mem_cons, List.not_mem_nil, or_false, not_or] at nb
    exact kp c o nb.1 nb.2.2.1 nb.2.2.2.1 nb.2.2.2.2 e
  self := fun A i s Q E q r => by
    obtain ⟨⟨f0, f, kz, kf⟩, _⟩ := q
    exact iter_zipG kz r
/-- one source, counted -/
def Ien (K : PySem.W.Frag) (a : Src) : It :=
  ⟨fun i H => ∃ xs : List V, a.is K H xs ∧ i < xs.length,
    fun i H v H' => ∃ T o x, v = .ref T ∧ H T = none ∧ Obj.dict o = none ∧ H' = upd H T (.frz o (.tup [.int (i : Nat), x])) ∧ ∀ xs, a.is K H xs → xs[i]? = some x,
    fun i H => ∃ xs : List V, a.is K H xs ∧ i = xs.length⟩
theorem turn_en {P : Program} {w : World} {K : PySem.W.Frag} {elts : List Expr} {kk : Nat} {tpos : Pos} {a : Src} {e it : Addr} (ne : e ≠ it) (fa : a.far [e, it]) :
    Turn P w K (.Tuple elts kk tpos) (Ien K a) [e, it] e (fun i h => (∃ old, IsEnum h e it ((i : Nat) : Int) old) ∧ Sst a it i h) where
  mem := by simp
  obj := fun i h q c hm => by
    obtain ⟨⟨old, ke⟩, g1⟩ := q
    have ec : c = e ∨ c = it := by simpa using hm
    rcases ec with rfl | rfl
    · exact ⟨_, ke, fun v w => nomatch w⟩
    · exact g1.own
  keep := fun i h h' q kp => by
    obtain ⟨⟨old, ke⟩, g1⟩ := q
    exact ⟨⟨old, kp e (by simp) _ ke⟩, g1.keep fun o w => kp it (by simp) o w⟩
  item := by
    intro X eP ew eK hc i pins s σ H E I hf q hg
    subst eP ew eK
    obtain ⟨⟨old, ke⟩, g1⟩ := q
    obtain ⟨xs, qa, la⟩ := hg
    obtain ⟨fp1, P1, S1, D1, m1, b1, t1, r1, v1⟩ := Src.draw (ch := [e, it]) I hc qa g1 (by simp) fa
    have out1 : e ∉ fp1 := fun w => (b1 e w).elim ne fun g => fa e g (by simp)
    have el : e < s.heap.objs.size := Heap.lt_size ke
    refine wpAny_pyNext_enum_itemD D1 ke t1 la ne out1 fun u h' tk p1 ko n1 kT ksz kp => ?_
    refine ⟨_, rfl, wpAny_letOwnedTupleGo_enum (s := { s with heap := h', toks := tk + 1 }) ko fun h2 ke2 sb => ?_⟩
    obtain ⟨x, ex, rx⟩ := v1 _ _ p1
    have kT2 : h2.get? s.heap.objs.size = some { cls := .type "tuple", data := .seq #[.int i tk, u] } := (sb.2 _ (Nat.ne_of_gt el)).trans kT
    have I1 : Inv X pins σ _ { s with heap := h2, toks := tk + 1 } := I.turnedNew (ch := [e, it]) (T := s.heap.objs.size) (fun c o nb w => by
      simp only [List.mem_cons, List.not_mem_nil, or_false, not_or] at nb
      exact (sb.2 c nb.1).trans (kp c o nb.1 nb.2 w)) hf (Nat.le_refl _) (pair_ok (x := .int (i : Nat)) ⟨_, rfl⟩ rx kT2)
    refine ⟨.ref s.heap.objs.size, _, I1, rfl, ⟨_, _, x, rfl, I.hok.fresh (Nat.le_refl _), rfl, rfl, fun l hl => by rw [Src.inj I hl qa]; exact ex⟩, ⟨⟨u, ?_⟩, ?_⟩, fun c hm => ?_⟩
    · have e1 : ((i + 1 : Nat) : Int) = (i : Int) + 1 := by omega
      rw [e1]
      exact ke2
    · exact (r1 _ _ n1).keep fun o w => (sb.2 _ ne.symm).trans w
    · rw [upd_ne]
      · exact (hf c hm).1
      · have ec : c = e ∨ c = it := by simpa using hm
        rcases ec with rfl | rfl
        · exact Nat.ne_of_lt el
        · obtain ⟨_, e1, _⟩ := g1.own
          exact Nat.ne_of_lt (Heap.lt_size e1)
  done := by
    intro X eP ew eK hc i pins s σ H E I hf q hg
    subst eP ew eK
    obtain ⟨⟨old, ke⟩, g1⟩ := q
    obtain ⟨xs, qa, rfl⟩ := hg
    obtain ⟨fp1, P1, S1, D1, m1, b1, t1, r1, v1⟩ := Src.draw (ch := [e, it]) I hc qa g1 (by simp) fa
    refine wpAny_pyNext_enum_endD D1 ke t1 fun h' kp => ⟨rfl, I.turnedL (t' := s.toks) (ch := [e, it]) (fun c o nb w => ?_) hf⟩
    simp only [List.mem_cons, List.not_mem_nil, or_false, not_or] at nb
    exact kp c o nb.2 w
  self := fun A i s Q E q r => by
    obtain ⟨⟨old, ke⟩, _⟩ := q
    exact wpAny_pyIter_enum ke r
theorem new_enum1 {v : Value} {o : Obj} {H : Heap → Prop} (B : Begins v o H) :
    Meets (Builtin.«enumerate.__new__» ⟨[.type "enumerate", v], []⟩) (fun _ R s => H s.heap ∧
      R (.ok (.ret (.ref (s.heap.push o).objs.size))) { s with heap := (s.heap.push o).push { cls := .type "enumerate", data := .fields #[.none, .bool false, .ref s.heap.objs.size, rawInt 0, .none, .none] } }) :=
  .of_wp fun prog w A R s h => by
    obtain ⟨hp, g, d, tk, os⟩ := s
    obtain ⟨b1, b2⟩ := h
    have su := sub_enumerate
    have q1 : ∀ {A' : Around} {E : Value → Shared → Prop} {Q : Value → Shared → Prop}, Q (.ref hp.objs.size) ⟨hp.push o, g, d, tk, os⟩ → wpAny (model prog w) A' (pyIter v) Q E ⟨hp, g, d, tk, os⟩ := fun q => B.iter prog w _ _ ⟨hp, g, d, tk, os⟩ _ b1 q
    wp_walk using q1
    refine wpAny_stack_any fun st => wpAny_pure ?_
    split
    · rename_i c _ _ _ _ _
      cases (c == Value.type "enumerate") <;> (wp_walk using q1; exact ⟨_, rfl, b2⟩)
    · wp_walk using q1
      exact ⟨_, rfl, b2⟩
section
variable {prog : Program} {w : World} {A : Around} {E : Value → Shared → Prop} {s : Shared}
theorem call_enum1 {v : Value} {o : Obj} {H : Heap → Prop} {Q : Value → Shared → Prop} (B : Begins v o H) (b1 : H s.heap)
    (q : ∀ h', IsEnum h' (s.heap.objs.size + 1) s.heap.objs.size 0 .none → h'.get? s.heap.objs.size = some o → (∀ b o, s.heap.get? b = some o → h'.get? b = some o) → Q (.ref (s.heap.objs.size + 1)) { s with heap := h' }) :
    wpAny (model prog w) A (call (.type "enumerate") [v]) Q E s := by
  refine callType_new F.called_enumerate (by decide) (F.typeCall_enumerate_1 _) (F.newCall_enumerate_1 _) (fun obj => F.args_object_init_2 obj _) F.entry_enumerate_new (new_enum1 B) ⟨b1, ?_⟩
  have ez : (s.heap.push o).objs.size = s.heap.objs.size + 1 := Heap.size_push ..
  have e1 := Heap.get?_push_size (s.heap.push o) (o := { cls := .type "enumerate", data := .fields #[.none, .bool false, .ref s.heap.objs.size, rawInt 0, .none, .none] }) rfl
  show _ ∧ _
  rw [ez] at e1 ⊢
  exact ⟨⟨_, e1, rfl⟩, q _ e1 (Heap.get?_push_of_some _ (Heap.get?_push_size _ B.free)) fun b o' w => Heap.get?_push_of_some _ (Heap.get?_push_of_some _ w)⟩
end
section
variable {X : Cx}
def Src.rel (r : Src) (v : V) (K : PySem.W.Frag) (H : Hp) (xs : List V) : Prop := v = r.v ∧ r.is K H xs
theorem Src.begin {pins : List (Addr × Obj)} {σ : L2.St} {H : Hp} {s : Shared} {r : Src} {xs : List V} {u : Value} (I : Inv X pins σ H s) (q : r.is X.K H xs) (rl : RelV r.v u) :
    ∃ (o : Obj) (Hs : Heap → Prop), Begins u o Hs ∧ Hs s.heap ∧ (∀ (h : Heap) (it : Addr), h.get? it = some o → Sst r it 0 h) ∧ ∀ c, r.has c → c < s.heap.objs.size := by
  cases r with
  | lst a =>
    cases rl
    obtain ⟨its, rv, p, _⟩ := I.list q
    exact ⟨_, _, begins_list a its.toArray, p.isList, fun h it e => ⟨⟨_, e, rfl, rfl⟩⟩, fun c e => by
      have e' : c = a := e
      subst e'
      exact p.lt⟩
  | tup a =>
    cases rl
    obtain ⟨its, rv, p, _⟩ := I.tuple q
    exact ⟨_, _, begins_tuple a its.toArray, p, fun h it e => ⟨⟨_, e, rfl, rfl⟩⟩, fun c e => by
      have e' : c = a := e
      subst e'
      obtain ⟨o, e2, _⟩ := p
      exact Heap.lt_size e2⟩
  | txt z =>
    obtain ⟨t, rfl⟩ := rl
    exact ⟨_, _, begins_text z t, trivial, fun h it e => ⟨⟨t, _, e, rfl, rfl⟩⟩, fun c e => e.elim⟩
def iZz (K : PySem.W.Frag) (ta : TA) : TI := fun σ H R => ta σ H fun vs H1 => ∃ (a b : Src) (xs ys : List V), vs = [a.v, b.v] ∧ a.is K H1 xs ∧ b.is K H1 ys ∧ R (Izz K a b) H1
theorem new5 {pins : List (Addr × Obj)} {σ : L2.St} {H : Hp} {s : Shared} (I : Inv X pins σ H s) : ∀ c, c ∈ [s.heap.objs.size + 4, s.heap.objs.size + 2, s.heap.objs.size + 3, s.heap.objs.size, s.heap.objs.size + 1] → s.heap.objs.size ≤ c := fun c hm => by
  simp only [List.mem_cons, List.not_mem_nil, or_false] at hm
  rcases hm with rfl | rfl | rfl | rfl | rfl <;> first | exact Nat.le_refl _ | exact Nat.le_add_right _ _
theorem pi_zz {e e2 : Expr} {ta : TA} {p pos tpos : Pos} {elts : List Expr} {kk : Nat} (hg : Gl X "zip") (hm : X.mg "zip" = none) (ha : PA X [e, e2] ta)
    (hs : starEach [e, e2] X.env = (false, eval e X.env) :: starEach [e2] X.env := by rfl) (hpl : (backTo pos (starEach [e2] X.env)).any (·.1) = false := by rfl) :
    PI X (.Tuple elts kk tpos) (.Call (.Name "zip" p) [e, e2] [] pos) (iZz X.K ta) := by
  refine ⟨fun pins s σ H R I h => Call_ (ld_blt I hg hm PyProof.Rows.boot_zip (PyProof.Rows.callWith_type1 (thn (ha.run pos pins s σ H _ I h) fun us s1 ⟨vs, H1, I1, r1, q1⟩ => ?_) hs hpl))⟩
  obtain ⟨a, b, xs, ys, rfl, qa, qb, q⟩ := q1
  obtain ⟨u1, u2, rfl, ra, rb⟩ := vals2 r1
  obtain ⟨o1, B1, c1, d1, e1, l1⟩ := Src.begin I1 qa ra
  obtain ⟨o2, B2, c2, d2, e2, l2⟩ := Src.begin I1 qb rb
  refine zip_begins2 c1 c2 d1 d2 fun h' kz kI kO k1 k2 ksz kp => wpAny_pyIter_zip kz ?_
  have I2 : Inv X pins σ H1 { s1 with heap := h' } := I1.kept (t' := s1.toks) kp
  have nw := new5 I1
  refine ⟨s1.heap.objs.size + 4, [s1.heap.objs.size + 4, s1.heap.objs.size + 2, s1.heap.objs.size + 3, s1.heap.objs.size, s1.heap.objs.size + 1], _, _, H1, rfl, I2,
    turn_zz (five_new s1.heap.objs.size) (fun c hc hm => absurd (l1 c hc) (Nat.not_lt.mpr (nw c hm))) (fun c hc hm => absurd (l2 c hc) (Nat.not_lt.mpr (nw c hm))), ⟨kz, kI, ⟨_, _, kO⟩, e1 _ _ k1, e2 _ _ k2⟩, fun c hm => I1.fpOk (nw c hm) (I1.hok.fresh (nw c hm)), q⟩
def iZN (K : PySem.W.Frag) (ta : TA) : TI := fun σ H R => ta σ H fun vs H1 => ∃ (a b : Addr) (xs ys : List V), vs = [.ref a, .ref b] ∧ SqL K H1 a xs ∧ SqL K H1 b ys ∧ R (Izz K (.lst a) (.lst b)) H1
theorem pi_zN {e e2 : Expr} {ta : TA} {p pos tpos : Pos} {nx : Str} (hg : Gl X "zip") (hm : X.mg "zip" = none) (ha : PA X [e, e2] ta)
    (hs : starEach [e, e2] X.env = (false, eval e X.env) :: starEach [e2] X.env := by rfl) (hpl : (backTo pos (starEach [e2] X.env)).any (·.1) = false := by rfl) :
    PI X (.Name nx tpos) (.Call (.Name "zip" p) [e, e2] [] pos) (iZN X.K ta) := by
  refine ⟨fun pins s σ H R I h => Call_ (ld_blt I hg hm PyProof.Rows.boot_zip (PyProof.Rows.callWith_type1 (thn (ha.run pos pins s σ H _ I h) fun us s1 ⟨vs, H1, I1, r1, q1⟩ => ?_) hs hpl))⟩
  obtain ⟨a, b, xs, ys, rfl, qa, qb, q⟩ := q1
  obtain ⟨u1, u2, rfl, ra, rb⟩ := vals2 r1
  cases ra
  cases rb
  obtain ⟨its, rv, p1, _⟩ := I1.list qa
  obtain ⟨its2, rv2, p2, _⟩ := I1.list qb
  refine call_zip_2 p1.isList p2.isList fun h' kz kI kO k1 k2 ksz kp => wpAny_pyIter_zip kz ?_
  have I2 : Inv X pins σ H1 { s1 with heap := h' } := I1.kept (t' := s1.toks) kp
  have nw := new5 I1
  exact ⟨s1.heap.objs.size + 4, [s1.heap.objs.size + 4, s1.heap.objs.size + 2, s1.heap.objs.size + 3, s1.heap.objs.size, s1.heap.objs.size + 1], _, _, H1, rfl, I2,
    turn_zN (PySem.W.ktu_apart s1.heap.objs.size a b p1.lt p2.lt), ⟨⟨_, _, kz, .inl rfl⟩, kI, ⟨_, _, kO⟩, k1, k2⟩, fun c hm => I1.fpOk (nw c hm) (I1.hok.fresh (nw c hm)), q⟩
def iEn (K : PySem.W.Frag) (ta : TA) : TI := fun σ H R => ta σ H fun vs H1 => ∃ (a : Src) (xs : List V), vs = [a.v] ∧ a.is K H1 xs ∧ R (Ien K a) H1
theorem pi_en {e : Expr} {ta : TA} {p pos tpos : Pos} {elts : List Expr} {kk : Nat} (hg : Gl X "enumerate") (hm : X.mg "enumerate" = none) (ha : PA X [e] ta) (hs : starEach [e] X.env = [(false, eval e X.env)] := by rfl) :
    PI X (.Tuple elts kk tpos) (.Call (.Name "enumerate" p) [e] [] pos) (iEn X.K ta) := by
  refine ⟨fun pins s σ H R I h => Call_ (ld_blt I hg hm boot_enumerate (PyProof.Rows.callWith_type1 (thn (ha.run pos pins s σ H _ I h) fun us s1 ⟨vs, H1, I1, r1, q1⟩ => ?_) hs rfl))⟩
  obtain ⟨a, xs, rfl, qa, q⟩ := q1
  obtain ⟨u1, rfl, ra⟩ := vals1 r1
  obtain ⟨o1, B1, c1, d1, e1, l1⟩ := Src.begin I1 qa ra
  refine call_enum1 c1 d1 fun h' ke k1 kp => wpAny_pyIter_enum ke ?_
  have I2 : Inv X pins σ H1 { s1 with heap := h' } := I1.kept (t' := s1.toks) kp
  have nw : ∀ c, c ∈ [s1.heap.objs.size + 1, s1.heap.objs.size] → s1.heap.objs.size ≤ c := fun c hm => by
    simp only [List.mem_cons, List.not_mem_nil, or_false] at hm
    rcases hm with rfl | rfl <;> first | exact Nat.le_refl _ | exact Nat.le_add_right _ _
  exact ⟨s1.heap.objs.size + 1, [s1.heap.objs.size + 1, s1.heap.objs.size], _, _, H1, rfl, I2, turn_en (Nat.succ_ne_self _) (fun c hc hm => absurd (l1 c hc) (Nat.not_lt.mpr (nw c hm))), ⟨⟨_, ke⟩, e1 _ _ k1⟩, fun c hm => I1.fpOk (nw c hm) (I1.hok.fresh (nw c hm)), q⟩
end
/-! .. over data -/
section
variable {ρ : En} {K : PySem.W.Frag} {ta tb : TE}
theorem wk_zz {H : Hp} {a b : Src} {xs ys : List V} {ds es : List PD} (ha : ∀ H', Same H H' → a.is K H' xs) (hb : ∀ H', Same H H' → b.is K H' ys) (da : DvAll H xs ds) (db : DvAll H ys es) :
    Wk (Izz K a b) H (List.zipWith (fun d e => .tuple [d, e]) ds es) := by
  have la := da.length
  have lb := db.length
  have ll : (List.zipWith (fun d e => PyData.tuple [d, e]) ds es).length = min ds.length es.length := List.length_zipWith
  refine ⟨fun i H2 e hi => ⟨xs, ys, ha H2 e, hb H2 e, by omega, by omega⟩, fun H2 e => ⟨xs, ys, ha H2 e, hb H2 e, by omega, by omega, by omega⟩, fun i H2 v H3 e hi y => ?_⟩
  obtain ⟨T, o, x, z, rfl, hT, ho, rfl, f1, f2⟩ := y
  obtain ⟨d, e1, h1⟩ := da.get' (f1 xs (ha H2 e))
  obtain ⟨d', e2, h2⟩ := db.get' (f2 ys (hb H2 e))
  refine ⟨Same.new hT, .tuple [d, d'], ?_, .tup ⟨o, upd_same, ho⟩ (.cons ((h1.mono e).mono (Same.new hT)) (.cons ((h2.mono e).mono (Same.new hT)) .nil))⟩
  rw [List.getElem?_zipWith, e1, e2]
theorem ei_zzT {ds es : List PD} (h1 : Ed ρ ta (.tuple ds)) (h2 : Ed ρ tb (.tuple es)) : Ei ρ (iZz K (tCons ta (tCons tb tNil))) (List.zipWith (fun d e => .tuple [d, e]) ds es) := fun σ H R s q =>
  h1 σ H _ s fun v H1 e1 g1 => h2 σ H1 _ (s.mono e1) fun w H2 e2 g2 => by
    obtain ⟨a, xs, rfl, t1, k1⟩ := (g1.mono e2).of_tup
    obtain ⟨b, ys, rfl, t2, k2⟩ := g2.of_tup
    exact ⟨.tup a, .tup b, xs, ys, rfl, t1.seq, t2.seq, q _ H2 (e1.trans e2) (wk_zz (fun H' e => (t1.mono e).seq) (fun H' e => (t2.mono e).seq) k1 k2)⟩
theorem signs_dv {H : Hp} (z : Str) : DvAll H (signs z) (z.cps.toList.map fun c => .str ⟨#[c]⟩) := by
  unfold signs
  generalize z.cps.toList = l
  induction l with
  | nil => exact .nil
  | cons c r ih => exact .cons (.str _) ih
theorem ei_zzS {z : Str} {es : List PD} (h1 : Ed ρ ta (.str z)) (h2 : Ed ρ tb (.list es)) : Ei ρ (iZz K (tCons ta (tCons tb tNil))) (List.zipWith (fun d e => .tuple [d, e]) (z.cps.toList.map fun c => .str ⟨#[c]⟩) es) := fun σ H R s q =>
  h1 σ H _ s fun v H1 e1 g1 => h2 σ H1 _ (s.mono e1) fun w H2 e2 g2 => by
    cases g1
    obtain ⟨b, ys, rfl, t2, k2⟩ := g2.of_lst
    exact ⟨.txt z, .lst b, signs z, ys, rfl, rfl, SqL.of t2, q _ H2 (e1.trans e2) (wk_zz (fun H' e => rfl) (fun H' e => SqL.of (e _ _ t2)) (signs_dv z) k2)⟩
theorem ei_zN {ds es : List PD} (h1 : Ed ρ ta (.list ds)) (h2 : Ed ρ tb (.list es)) : Ei ρ (iZN K (tCons ta (tCons tb tNil))) (List.zipWith (fun d e => .tuple [d, e]) ds es) := fun σ H R s q =>
  h1 σ H _ s fun v H1 e1 g1 => h2 σ H1 _ (s.mono e1) fun w H2 e2 g2 => by
    obtain ⟨a, xs, rfl, t1, k1⟩ := (g1.mono e2).of_lst
    obtain ⟨b, ys, rfl, t2, k2⟩ := g2.of_lst
    exact ⟨a, b, xs, ys, rfl, SqL.of t1, SqL.of t2, q _ H2 (e1.trans e2) (wk_zz (a := .lst a) (b := .lst b) (fun H' e => SqL.of (e _ _ t1)) (fun H' e => SqL.of (e _ _ t2)) k1 k2)⟩
def counted (ds : List PD) : List PD := (List.range ds.length).map fun (i : Nat) => PyData.tuple [.int (i : Int), ds.getD i .none]
theorem ei_en {ds : List PD} (h : Ed ρ ta (.tuple ds)) : Ei ρ (iEn K (tCons ta tNil)) (counted ds) := fun σ H R s q => h σ H _ s fun v H1 e1 g1 => by
  obtain ⟨a, xs, rfl, t1, k1⟩ := g1.of_tup
  have la := k1.length
  have lc : (counted ds).length = ds.length := by
    unfold counted
    rw [List.length_map, List.length_range]
  refine ⟨.tup a, xs, rfl, t1.seq, q _ H1 e1 ⟨fun i H2 e hi => ⟨xs, (t1.mono e).seq, by omega⟩, fun H2 e => ⟨xs, (t1.mono e).seq, by omega⟩, fun i H2 v H3 e hi y => ?_⟩⟩
  obtain ⟨T, o, x, rfl, hT, ho, rfl, f1⟩ := y
  obtain ⟨d, e1, h1⟩ := k1.get' (f1 xs (t1.mono e).seq)
  refine ⟨Same.new hT, .tuple [.int i, d], ?_, .tup ⟨o, upd_same, ho⟩ (.cons (.int i) (.cons ((h1.mono e).mono (Same.new hT)) .nil))⟩
  unfold counted
  rw [List.getElem?_map, List.getElem?_range (by omega)]
  show some (PyData.tuple [.int (i : Int), ds.getD i .none]) = _
  rw [List.getD_eq_getElem?_getD, e1]
  rfl
end
end K27
end
section
set_option Elab.async false
set_option linter.all false
set_option maxRecDepth 100000
namespace K27
open PySem PySem.Spec PyProof.Rows L2
/-! ### the text, its defs, what they call -/
def topS (i : Nat) : Stmt := PySem.Challenge.pw_blindtill_k27_whole_rights_behind_safe_p.main.body.getD i (.Pass ⟨0, 0, 0, 0⟩)
/-- built-in names that stand for themselves -/
structure Bi (mg : Str → Option Value) : Prop where
  len : mg "len" = none
  sum : mg "sum" = none
  min : mg "min" = none
  max : mg "max" = none
  all : mg "all" = none
  range : mg "range" = none
  zip : mg "zip" = none
  enumerate : mg "enumerate" = none
  isinstance : mg "isinstance" = none
  int : mg "int" = none
  bool : mg "bool" = none
  tuple : mg "tuple" = none
  str : mg "str" = none
  list : mg "list" = none
  dict : mg "dict" = none
  set : mg "set" = none
  sorted : mg "sorted" = none
  divmod : mg "divmod" = none
theorem bt_len : bootBuiltins "len" = some (.builtin "len") := by decide +kernel
theorem bt_sum : bootBuiltins "sum" = some (.builtin "sum") := by decide +kernel
theorem bt_min : bootBuiltins "min" = some (.builtin "min") := by decide +kernel
theorem bt_max : bootBuiltins "max" = some (.builtin "max") := by decide +kernel
theorem bt_all : bootBuiltins "all" = some (.builtin "all") := by decide +kernel
theorem bt_range : bootBuiltins "range" = some (.type "range") := by decide +kernel
theorem bt_zip : bootBuiltins "zip" = some (.type "zip") := by decide +kernel
theorem bt_enumerate : bootBuiltins "enumerate" = some (.type "enumerate") := by decide +kernel
theorem bt_isinstance : bootBuiltins "isinstance" = some (.builtin "isinstance") := by decide +kernel
theorem bt_int : bootBuiltins "int" = some (.type "int") := by decide +kernel
theorem bt_bool : bootBuiltins "bool" = some (.type "bool") := by decide +kernel
theorem bt_tuple : bootBuiltins "tuple" = some (.type "tuple") := by decide +kernel
theorem bt_str : bootBuiltins "str" = some (.type "str") := by decide +kernel
theorem bt_list : bootBuiltins "list" = some (.type "list") := by decide +kernel
theorem bt_dict : bootBuiltins "dict" = some (.type "dict") := by decide +kernel
theorem bt_set : bootBuiltins "set" = some (.type "set") := by decide +kernel
theorem bt_sorted : bootBuiltins "sorted" = some (.builtin "sorted") := by decide +kernel
theorem bt_divmod : bootBuiltins "divmod" = some (.builtin "divmod") := by decide +kernel
abbrev rTupF (K : PySem.W.Frag) : List V → Hp → VK → Prop := fun xs H Q => ∃ p ys, xs = [.ref p] ∧ SqL K H p ys ∧ NewT ys H Q
abbrev rMaxT (K : PySem.W.Frag) : List V → Hp → VK → Prop := fun vs H Q => ∃ a i j, vs = [.ref a] ∧ SqT K H a [.int i, .int j] ∧ Q (.int (max i j)) H
/-- the def of that name stands -/
structure Dfn (K : PySem.W.Frag) (mg : Str → Option Value) (x : Str) (st : Stmt) (ps : List Str) : Prop where
  ex : ∃ f fd, Fun K x x st f fd ∧ mg x = some (.ref f) ∧ Binds K fd ps []
/-- a call of that name keeps the promise -/
structure Cal (P : Program) (w : World) (K : PySem.W.Frag) (mg : Str → Option Value) (base : Heap) (x : Str) (k : Nat) (sp : Sp) : Prop where
  ex : ∃ f fd ps, FnOk P w K mg base CX0 k f fd ps sp ∧ mg x = some (.ref f) ∧ PySem.W.keepIn K (.ref f) = true ∧ Binds K fd ps []
section
variable {P : Program} {w : World} {K : PySem.W.Frag} {mg : Str → Option Value} {base : Heap}
theorem Cal.mono {x : Str} {j k : Nat} {sp : Sp} (c : Cal P w K mg base x j sp) (h : j ≤ k) : Cal P w K mg base x k sp := by
  obtain ⟨f, fd, ps, a, b⟩ := c.ex
  exact ⟨f, fd, ps, a.mono h, b⟩
theorem Cal.imp {x : Str} {k : Nat} {sp sp' : Sp} (c : Cal P w K mg base x k sp) (h : ∀ vs H Q E, sp' vs H Q E → sp vs H Q E) : Cal P w K mg base x k sp' := by
  obtain ⟨f, fd, ps, a, b⟩ := c.ex
  exact ⟨f, fd, ps, a.imp h, b⟩
theorem Dfn.cal {x : Str} {st : Stmt} {ps : List Str} (d : Dfn K mg x st ps) {k : Nat} {sp : Sp} (h : ∀ f fd, Fun K x x st f fd → FnOk P w K mg base CX0 k f fd ps sp) : Cal P w K mg base x k sp := by
  obtain ⟨f, fd, F, m, b⟩ := d.ex
  exact ⟨f, fd, ps, h f fd F, m, F.kp, b⟩
/-- nothing is promised -/
theorem Dfn.vac {x : Str} {st : Stmt} {ps : List Str} (d : Dfn K mg x st ps) {k : Nat} {sp : Sp} (h : ∀ vs H Q E, ¬ sp vs H Q E) : Cal P w K mg base x k sp :=
  d.cal fun _ _ _ => ⟨fun vs H Q E q => absurd q (h vs H Q E), fun _ _ _ H _ _ vs Q E _ _ _ _ q => absurd q (h vs H Q E)⟩
end
section
variable {X : Cx}
theorem pe_cal {x : Str} {k : Nat} {sp : Sp} {p pos : Pos} {e : Expr} {es : List Expr} {t : TA} (c : Cal X.prog X.w X.K X.mg X.base x k sp) (hr : Room k X.A) (hg : Gl X x) (ha : PA X (e :: es) t)
    (hdb : (x == ("__debug__" : Str)) = false := by decide) (he : starEach (e :: es) X.env = (false, eval e X.env) :: starEach es X.env := by rfl) (hpl : (backTo pos (starEach es X.env)).any (·.1) = false := by rfl) :
    PE X (.Call (.Name x p) (e :: es) [] pos) (tCall sp [] E0 t) := by
  obtain ⟨f, fd, ps, F, m, kp, b⟩ := c.ex
  exact pe_call F hr hg m kp b .nil pass0 ha hdb he hpl
end
end K27
end
section
set_option Elab.async false
set_option linter.all false
set_option maxRecDepth 100000
namespace K27
open PySem PySem.Spec PyProof.Rows L2
/-! ### how things stand as data -/
abbrev encL (x : Int × Int) : PD := .tuple [.int x.1, .int x.2]
def encP (p : Pile) : PD := .tuple (p.map encL)
def encB : Option Int → PD
  | .none => .none
  | .some b => .int b
mutual
def encR : Rt Str → PD
  | .none => .tuple [.str "none"]
  | .call nm m t => .tuple [.str "call", .str nm, .int m, .int t]
  | .within m r => .tuple [.str "within", .int m, encR r]
  | .calls k r => .tuple [.str "calls", .int k, encR r]
  | .all rs => .tuple [.str "all", .tuple (encRs rs)]
  | .one rs => .tuple [.str "one", .tuple (encRs rs)]
def encRs : List (Rt Str) → List PD
  | [] => []
  | r :: rs => encR r :: encRs rs
end
theorem encRs_map : ∀ rs : List (Rt Str), encRs rs = rs.map encR
  | [] => rfl
  | r :: rs => by
    rw [encRs, encRs_map rs]
    rfl
/-! how deep -/
mutual
def dep : Rt Str → Nat
  | .none => 1
  | .call _ _ _ => 1
  | .within _ r => dep r + 1
  | .calls _ r => dep r + 1
  | .all rs => deps rs + 1
  | .one rs => deps rs + 1
def deps : List (Rt Str) → Nat
  | [] => 0
  | r :: rs => max (dep r) (deps rs)
end
theorem dep_pos : ∀ r : Rt Str, 1 ≤ dep r
  | .none => Nat.le_refl _
  | .call _ _ _ => Nat.le_refl _
  | .within _ r => by rw [dep]; omega
  | .calls _ r => by rw [dep]; omega
  | .all rs => by rw [dep]; omega
  | .one rs => by rw [dep]; omega
theorem deps_mem : ∀ {rs : List (Rt Str)} {r : Rt Str}, r ∈ rs → dep r ≤ deps rs
  | [], r, h => nomatch h
  | x :: rs, r, h => by
    rw [deps]
    rcases List.mem_cons.mp h with e | h
    · rw [e]
      omega
    · have := deps_mem h
      omega
/-! numbers in bounds -/
mutual
def rb : Rt Str → Prop
  | .none => True
  | .call _ m t => 1 ≤ m ∧ m ≤ 1000000 ∧ 1 ≤ t ∧ t ≤ 1000000
  | .within m r => 1 ≤ m ∧ m ≤ 1000000 ∧ rb r
  | .calls k r => 1 ≤ k ∧ k ≤ 1000 ∧ rb r
  | .all rs => rs.length ≤ 1000 ∧ rbAll rs
  | .one rs => rs.length ≤ 1000 ∧ rbAll rs
def rbAll : List (Rt Str) → Prop
  | [] => True
  | r :: rs => rb r ∧ rbAll rs
end
theorem rbAll_mem : ∀ {rs : List (Rt Str)} {r : Rt Str}, rbAll rs → r ∈ rs → rb r
  | x :: rs, r, h, hm => by
    rw [rbAll] at h
    rcases List.mem_cons.mp hm with e | hm
    · rw [e]
      exact h.1
    · exact rbAll_mem h.2 hm
mutual
theorem rb_ok : ∀ r : Rt Str, rb r → ok r
  | .none, _ => by rw [ok]; trivial
  | .call _ m t, h => by rw [rb] at h; rw [ok]; omega
  | .within m r, h => by rw [rb] at h; rw [ok]; exact ⟨h.1, rb_ok r h.2.2⟩
  | .calls k r, h => by rw [rb] at h; rw [ok]; exact ⟨h.1, rb_ok r h.2.2⟩
  | .all rs, h => by rw [rb] at h; rw [ok]; exact rbAll_ok rs h.2
  | .one rs, h => by rw [rb] at h; rw [ok]; exact rbAll_ok rs h.2
theorem rbAll_ok : ∀ rs : List (Rt Str), rbAll rs → okAll rs
  | [], _ => by rw [okAll]; trivial
  | r :: rs, h => by rw [rbAll] at h; rw [okAll]; exact ⟨rb_ok r h.1, rbAll_ok rs h.2⟩
end
mutual
theorem encR_noL : ∀ r : Rt Str, noL (encR r) = true
  | .none => rfl
  | .call _ _ _ => rfl
  | .within m r => by simp only [encR, noL, noLAll, encR_noL r, Bool.and_true]
  | .calls m r => by simp only [encR, noL, noLAll, encR_noL r, Bool.and_true]
  | .all rs => by simp only [encR, noL, noLAll, encRs_noL rs, Bool.and_true]
  | .one rs => by simp only [encR, noL, noLAll, encRs_noL rs, Bool.and_true]
theorem encRs_noL : ∀ rs : List (Rt Str), noLAll (encRs rs) = true
  | [] => rfl
  | r :: rs => by simp only [encRs, noLAll, encR_noL r, encRs_noL rs, Bool.and_true]
end
/-- piles in bounds -/
structure PB (p : Pile) : Prop where
  len : p.length ≤ 1000
  at_ : ∀ x ∈ p, 1 ≤ x.1 ∧ x.1 ≤ 1000000 ∧ 1 ≤ x.2 ∧ x.2 ≤ 1000000
theorem sumOf_eq : ∀ p : Pile, sumOf p = (p.map fun x => x.1 * x.2).sum
  | [] => rfl
  | (w, m) :: p => by
    rw [sumOf, sumOf_eq p]
    rfl
theorem lessOf_eq (c : Int) : ∀ p : Pile, lessOf p c = ((p.filter fun x => decide (x.1 < c)).map fun x => x.1 * x.2).sum
  | [] => rfl
  | (w, m) :: p => by
    rw [lessOf, lessOf_eq c p, List.filter_cons]
    by_cases h : w < c
    · rw [if_pos h, if_pos (decide_eq_true h)]
      rfl
    · rw [if_neg h, if_neg (by simpa using h)]
theorem lenSum_eq : ∀ rs : List (Rt Str), lenSum rs = (rs.map len).sum
  | [] => rfl
  | r :: rs => by
    rw [lenSum, lenSum_eq rs]
    rfl
theorem topSum_eq (b : Option Int) : ∀ rs : List (Rt Str), topSum rs b = (rs.map fun r => top r b).sum
  | [] => rfl
  | r :: rs => by
    rw [topSum, topSum_eq b rs]
    rfl
theorem max_of {f : Rt Str → Int} {m : List (Rt Str) → Int} (m0 : m [] = 0) (mc : ∀ r rs, m (r :: rs) = max (f r) (m rs)) : ∀ rs : List (Rt Str), (m rs ∈ rs.map f ++ [0]) ∧ ∀ y ∈ rs.map f ++ [0], y ≤ m rs
  | [] => by
    rw [m0]
    simp
  | r :: rs => by
    obtain ⟨h1, h2⟩ := max_of m0 mc rs
    rw [mc]
    refine ⟨?_, fun y hy => ?_⟩
    · by_cases q : f r ≤ m rs
      · rw [show max (f r) (m rs) = m rs by omega]
        exact List.mem_cons_of_mem _ h1
      · rw [show max (f r) (m rs) = f r by omega]
        exact List.mem_cons_self ..
    · rcases List.mem_cons.mp hy with e | hy
      · rw [e]
        omega
      · have := h2 y hy
        omega
theorem max_one {f : Rt Str → Int} {m : List (Rt Str) → Int} (m0 : m [] = 0) (mc : ∀ r rs, m (r :: rs) = max (f r) (m rs)) (rs : List (Rt Str)) (k : Int) (h1 : k ∈ rs.map f ++ [0]) (h2 : ∀ y, y ∈ rs.map f ++ [0] → y ≤ k) : k = m rs := by
  obtain ⟨g1, g2⟩ := max_of m0 mc rs
  have a := g2 k h1
  have b := h2 _ g1
  omega
local macro_rules | `(tactic| walk_at "ed") => `(tactic| first
  | exact ed_var rfl | exact ed_int | exact ed_str | exact ed_non | exact ed_bl
  | (apply ed_ixT <;> first | rfl | walk_at "ed")
  | (apply ed_add <;> walk_at "ed")
  | (apply ed_sub <;> walk_at "ed")
  | (apply ed_min2 <;> walk_at "ed")
  | (apply ed_max2 <;> walk_at "ed")
  | (apply ed_eqS <;> walk_at "ed")
  | (apply ed_neS <;> walk_at "ed")
  | (apply ed_isN <;> walk_at "ed")
  | (apply ed_notN <;> walk_at "ed")
  | (apply ed_lt <;> walk_at "ed")
  | (apply ed_le <;> walk_at "ed")
  | (apply ed_gt <;> walk_at "ed")
  | (apply ed_ge <;> walk_at "ed")
  | (apply ed_mul <;> first | walk_at "ed" | skip)
  | (apply ed_in2 <;> walk_at "ed")
  | (apply ed_tup <;> first | (show EdA _ _ _; walk_at "ea") | (simp only [List.length_cons, List.length_nil]; decide) | skip)
  | (apply ed_lst <;> first | (show EdA _ _ _; walk_at "ea") | (simp only [List.length_cons, List.length_nil]; decide) | skip)
  | skip)
local macro_rules | `(tactic| walk_at "ea") => `(tactic| first
  | exact ea_nil
  | (apply ea_cons <;> first | (show EdA _ _ _; walk_at "ea") | walk_at "ed"))
local macro_rules | `(tactic| walk_at "set") => `(tactic| (refine' eo_seq (eo_set ?kz1) ?kz2; (case kz1 => walk_at "ed")))
local macro_rules | `(tactic| walk_at "et") => `(tactic| first
  | (refine' et_test ?kz1; (case kz1 => walk_at "ed"))
  | (refine' et_B ?kz1; (case kz1 => walk_at "ed"))
  | skip)
local macro_rules | `(tactic| walk_at "F") => `(tactic| (refine' eo_seq (eo_ifF (Et.is (et_test ?kz1) ?kz2) eo_next) ?kz3; (case kz1 => walk_at "ed"); (case kz2 => decide)))
local macro_rules | `(tactic| walk_at "T") => `(tactic| (refine' eo_ret1 (eo_ifT (Et.is (et_test ?kz1) ?kz2) (eo_ret ?kz3)); (case kz1 => walk_at "ed"); (case kz2 => decide)))
local macro_rules | `(tactic| walk_at "TB") => `(tactic| (refine' eo_ret1 (eo_ifT (Et.is (et_test ?kz1) ?kz2) ?kz3); (case kz1 => walk_at "ed"); (case kz2 => decide)))

section
variable {P : Program} {w : World} {K : PySem.W.Frag} {mg : Str → Option Value} {base : Heap}
abbrev s_law_sum : Stmt := topS 26
abbrev n_law_sum : List Str := ["_law_pile", "_law_worth", "_law_many"]
theorem sc_law_sum : FnScope n_law_sum ["_law_pile"] (defScope s_law_sum) := ⟨rfl, rfl, rfl, by decide +kernel, rfl, by decide +kernel, by decide +kernel⟩
abbrev spSum : Sp := spD (fun p : Pile => [encP p]) PB fun p => .int (sumOf p)
theorem ok_law_sum (D : Dfn K mg "_law_sum" s_law_sum ["_law_pile"]) (Z : Bi mg) : Cal P w K mg base "_law_sum" 1 spSum := by
  refine D.cal fun f fd F => def_ok F sc_law_sum (fun _ => rfl) fun cdv A outer s H E hr => ?_
  refine ⟨_, (pss_one (ps_ret (pe_callB (cr_sum rfl) rfl Z.sum bt_sum (pa_cons (pe_lc (own := [("_law_worth", 1), ("_law_many", 2)]) (g := (gTup K 2 (gCons (gName 1) (gCons (gName 2) gNil)))) (tt := tYes) rfl sc_law_sum.nd (pi_tup (pv 0)) (blkOk_by (own := [("_law_worth", 1), ("_law_many", 2)]) (N := n_law_sum) (sc := defScope s_law_sum) (by decide +kernel)) (fun _ _ _ _ _ => (pg_tup rfl (pgs_cons (pg_name (i := 1) sc_law_sum.nd rfl (Or.inl rfl)) (pgs_cons (pg_name (i := 2) sc_law_sum.nd rfl (Or.inl rfl)) pgs_nil)))) (fun _ _ _ _ _ => pts_nil) (fun _ _ _ _ _ => (pe_op op_mul (pv 1) (pv 2)))) pa_nil)))), fun p hp => ?_⟩
  refine Eo.is (eo_ret (ed_sum (ns := p.map fun x => x.1 * x.2) (ed_lcm (l := p) (enc := encL) (f := fun x => .int (x.1 * x.2)) (ei_tup (ed_var rfl)) ?_ ?_) ?_)) ?_
  · intro x hx
    refine ⟨_, _, eg_tup (egs_cons eg_name (egs_cons eg_name egs_nil)) rfl, by decide, rfl, ?_⟩
    walk_at "ed"
    have := hp.at_ x hx
    exact .inl ⟨by omega, by omega⟩
  · have := hp.len
    omega
  · rw [List.map_map]; rfl
  · rw [sumOf_eq]
abbrev s_law_under : Stmt := topS 27
abbrev n_law_under : List Str := ["_law_pile", "_law_bound", "_law_worth", "_law_many"]
theorem sc_law_under : FnScope n_law_under ["_law_pile", "_law_bound"] (defScope s_law_under) := ⟨rfl, rfl, rfl, by decide +kernel, rfl, by decide +kernel, by decide +kernel⟩
abbrev spUnder : Sp := spD (fun a : Pile × Int => [encP a.1, .int a.2]) (fun a => PB a.1) fun a => .int (lessOf a.1 a.2)
theorem ok_law_under (D : Dfn K mg "_law_under" s_law_under ["_law_pile", "_law_bound"]) (Z : Bi mg) : Cal P w K mg base "_law_under" 1 spUnder := by
  refine D.cal fun f fd F => def_ok F sc_law_under (fun _ => rfl) fun cdv A outer s H E hr => ?_
  refine ⟨_, (pss_one (ps_ret (pe_callB (cr_sum rfl) rfl Z.sum bt_sum (pa_cons (pe_lc (own := [("_law_worth", 2), ("_law_many", 3)]) (g := (gTup K 2 (gCons (gName 2) (gCons (gName 3) gNil)))) (tt := _) rfl sc_law_under.nd (pi_tup (pv 0)) (blkOk_by (own := [("_law_worth", 2), ("_law_many", 3)]) (N := n_law_under) (sc := defScope s_law_under) (by decide +kernel)) (fun _ _ _ _ _ => (pg_tup rfl (pgs_cons (pg_name (i := 2) sc_law_under.nd rfl (Or.inl rfl)) (pgs_cons (pg_name (i := 3) sc_law_under.nd rfl (Or.inl rfl)) pgs_nil)))) (fun _ _ _ _ _ => (pts_one (PW.pt (pw_or (pt_cmpR op_isN (pv 1) pe_non (nomark _)) (pw_or1 (pt_cmpR op_lt (pv 2) (pv 1) (nomark _))))))) (fun _ _ _ _ _ => (pe_op op_mul (pv 2) (pv 3)))) pa_nil)))), fun a hp => ?_⟩
  obtain ⟨p, c⟩ := a
  refine Eo.is (eo_ret (ed_sum (ns := (p.filter fun x => decide (x.1 < c)).map fun x => x.1 * x.2) (ed_lcf (l := p) (enc := encL) (f := fun x => .int (x.1 * x.2)) (p := fun x => decide (x.1 < c)) (ei_tup (ed_var rfl)) ?_ ?_) ?_)) ?_
  · intro x hx
    refine ⟨_, _, eg_tup (egs_cons eg_name (egs_cons eg_name egs_nil)) rfl, by decide, ?_, fun _ => ⟨rfl, ?_⟩⟩
    · refine Et.is (et_or (a := false) (et_test ?_) fun _ => et_test (b := decide (x.1 < c)) ?_) ?_
      · refine Ed.is (ed_isN (ed_var rfl)) rfl
      · walk_at "ed"
      · rfl
    · walk_at "ed"
      have := hp.at_ x hx
      exact .inl ⟨by omega, by omega⟩
  · have := hp.len
    show p.length < 1000000
    simp only at this
    omega
  · rw [List.map_map]; rfl
  · rw [lessOf_eq]
/-! ### how many calls -/
abbrev s_law_length : Stmt := topS 30
abbrev n_law_length : List Str := ["_law_right_here", "_law_word", "_law_counts", "_law_part"]
theorem sc_law_length : FnScope n_law_length ["_law_right_here"] (defScope s_law_length) := ⟨rfl, rfl, rfl, by decide +kernel, rfl, by decide +kernel, by decide +kernel⟩
abbrev spLen (n : Nat) : Sp := spD (fun r : Rt Str => [encR r]) (fun r => rb r ∧ dep r ≤ n) fun r => .int (len r)
theorem sp_vac {α : Type} {enc : α → List PD} {pre : α → Prop} {out : α → PD} (h : ∀ a, ¬ pre a) : ∀ vs H Q E, ¬ spD enc pre out vs H Q E := fun vs H Q E ⟨a, _, hp, _⟩ => h a hp
theorem ok_law_length (D : Dfn K mg "_law_length" s_law_length ["_law_right_here"]) (Z : Bi mg) : ∀ n : Nat, Cal P w K mg base "_law_length" n (spLen n)
  | 0 => D.vac (sp_vac fun r h => by have := dep_pos r; omega)
  | n + 1 => by
    have C_law_length := ok_law_length D Z n
    refine D.cal fun f fd F => def_ok F sc_law_length (fun _ => rfl) fun cdv A outer s H E hr => ?_
    refine ⟨_, (pss_cons (ps_set (i := 1) sc_law_length.nd rfl (Or.inl rfl) (pe_ix ix_tup (pv 0) pe_int (fun _ _ => rfl)))
    (pss_cons (ps_if (pt_cmpR op_eq (pv 1) pe_str (nomark _)) (pss_one (ps_ret (pe_ix ix_tup (pv 0) pe_int (fun _ _ => rfl)))) pss_nil)
    (pss_cons (ps_if (pt_cmpR op_in_seq (pv 1) (pe_tupF (pa_cons pe_str (pa_cons pe_str pa_nil))) (by rfl)) (pss_one (ps_ret (pe_callB (call_min2 rfl) rfl Z.min bt_min (pa_cons (pe_ix ix_tup (pv 0) pe_int (fun _ _ => rfl)) (pa_cons (pe_cal C_law_length (hr.mono (by omega)) rfl (pa_cons (pe_ix ix_tup (pv 0) pe_int (fun _ _ => rfl)) pa_nil)) pa_nil))))) pss_nil)
    (pss_cons (ps_if (pt_cmpR op_eq (pv 1) pe_str (nomark _)) (pss_one (ps_ret pe_int)) pss_nil)
    (pss_cons (ps_setLc (i := 2) (own := [("_law_part", 3)]) (g := (gName 3)) (tt := tYes) rfl sc_law_length.nd rfl rfl (sw_true rfl rfl rfl (by decide +kernel)) (pi_tup (pe_ix ix_tup (pv 0) pe_int (fun _ _ => rfl))) (blkOk_by (own := [("_law_part", 3)]) (N := n_law_length) (sc := defScope s_law_length) (by decide +kernel)) (fun _ _ _ _ _ => (pg_name (i := 3) sc_law_length.nd rfl (Or.inl rfl))) (fun _ _ _ _ _ => pts_nil) (fun _ _ _ _ _ => (pe_cal C_law_length (hr.mono (by omega)) rfl (pa_cons (pv 3) pa_nil))))
    (pss_one (ps_ret (pe_ifExp (pt_cmpR op_eq (pv 1) pe_str (nomark _)) (pe_callB (cr_sum rfl) rfl Z.sum bt_sum (pa_cons (pv 2) pa_nil)) (pe_callB (cr_max rfl) rfl Z.max bt_max (pa_cons (pe_op op_cat (pv 2) (pe_lst (pa_cons pe_int pa_nil))) pa_nil)))))))))), fun r hp => ?_⟩
    obtain ⟨hb, hd⟩ := hp
    cases r with
    | none =>
      show Eo [some (.tuple [.str "none"]), none, none, none] _ _
      walk_at "set"
      walk_at "F"
      walk_at "F"
      walk_at "T"
      walk_at "ed"
    | call nm m t =>
      show Eo [some (.tuple [.str "call", .str nm, .int m, .int t]), none, none, none] _ _
      walk_at "set"
      walk_at "T"
      walk_at "ed"
    | within m q =>
      rw [rb] at hb
      rw [dep] at hd
      show Eo [some (.tuple [.str "within", .int m, encR q]), none, none, none] _ _
      walk_at "set"
      walk_at "F"
      walk_at "T"
      exact ed_min2 (by walk_at "ed") (ed_call q (by walk_at "ea") ⟨hb.2.2, by omega⟩)
    | calls m q =>
      rw [rb] at hb
      rw [dep] at hd
      show Eo [some (.tuple [.str "calls", .int m, encR q]), none, none, none] _ _
      walk_at "set"
      walk_at "F"
      walk_at "T"
      exact ed_min2 (by walk_at "ed") (ed_call q (by walk_at "ea") ⟨hb.2.2, by omega⟩)
    | all rs =>
      rw [rb] at hb
      rw [dep] at hd
      show Eo [some (.tuple [.str "all", .tuple (encRs rs)]), none, none, none] _ _
      walk_at "set"
      walk_at "F"
      walk_at "F"
      walk_at "F"
      refine' eo_seq (eo_set (ed_lcm (l := rs) (enc := encR) (f := fun r => .int (len r)) (Ei.is (ei_tup ?k1) (encRs_map rs)) ?k2 ?k3)) ?k4
      case k1 => walk_at "ed"
      case k2 =>
        intro r hr
        exact ⟨_, _, eg_name, by decide, rfl, ed_call r (by walk_at "ea") ⟨rbAll_mem hb.2 hr, by have := deps_mem hr; omega⟩⟩
      case k3 => omega
      refine' eo_ret (ed_ifT (Et.is (et_test ?k5) ?k6) ?k7)
      case k5 => walk_at "ed"
      case k6 => decide
      rw [len, lenSum_eq]
      refine ed_sum (ns := rs.map len) (ed_var rfl) ?_
      rw [List.map_map]
      rfl
    | one rs =>
      rw [rb] at hb
      rw [dep] at hd
      show Eo [some (.tuple [.str "one", .tuple (encRs rs)]), none, none, none] _ _
      walk_at "set"
      walk_at "F"
      walk_at "F"
      walk_at "F"
      refine' eo_seq (eo_set (ed_lcm (l := rs) (enc := encR) (f := fun r => .int (len r)) (Ei.is (ei_tup ?j1) (encRs_map rs)) ?j2 ?j3)) ?j4
      case j1 => walk_at "ed"
      case j2 =>
        intro r hr
        exact ⟨_, _, eg_name, by decide, rfl, ed_call r (by walk_at "ea") ⟨rbAll_mem hb.2 hr, by have := deps_mem hr; omega⟩⟩
      case j3 => omega
      refine' eo_ret (ed_ifF (Et.is (et_test ?j5) ?j6) ?j7)
      case j5 => walk_at "ed"
      case j6 => decide
      rw [len]
      have hm := max_one (f := len) (m := lenMax) (by rw [lenMax]) (fun r rs => by rw [lenMax]) rs
      refine ed_max (ns := rs.map len ++ [0]) (ed_cat (ed_var rfl) (by walk_at "ed") ?j8) ?j9 ?j10 hm
      case j8 => rw [List.length_map]; show rs.length + 1 ≤ _; omega
      case j9 => rw [List.map_append, List.map_map]; rfl
      case j10 => rw [List.length_append]; show 0 < _ + 1; omega
end
end K27
end
section
set_option Elab.async false
set_option linter.all false
set_option maxRecDepth 100000
namespace K27
open PySem PySem.Spec PyProof.Rows L2

local macro_rules | `(tactic| walk_at "ed") => `(tactic| first
  | exact ed_var rfl | exact ed_int | exact ed_str | exact ed_non | exact ed_bl
  | (apply ed_ixT <;> first | rfl | walk_at "ed")
  | (apply ed_add <;> walk_at "ed")
  | (apply ed_sub <;> walk_at "ed")
  | (apply ed_min2 <;> walk_at "ed")
  | (apply ed_max2 <;> walk_at "ed")
  | (apply ed_eqS <;> walk_at "ed")
  | (apply ed_neS <;> walk_at "ed")
  | (apply ed_isN <;> walk_at "ed")
  | (apply ed_notN <;> walk_at "ed")
  | (apply ed_lt <;> walk_at "ed")
  | (apply ed_le <;> walk_at "ed")
  | (apply ed_gt <;> walk_at "ed")
  | (apply ed_ge <;> walk_at "ed")
  | (apply ed_mul <;> first | walk_at "ed" | skip)
  | (apply ed_in2 <;> walk_at "ed")
  | (apply ed_tup <;> first | (show EdA _ _ _; walk_at "ea") | (simp only [List.length_cons, List.length_nil]; decide) | skip)
  | (apply ed_lst <;> first | (show EdA _ _ _; walk_at "ea") | (simp only [List.length_cons, List.length_nil]; decide) | skip)
  | skip)
local macro_rules | `(tactic| walk_at "ea") => `(tactic| first
  | exact ea_nil
  | (apply ea_cons <;> first | (show EdA _ _ _; walk_at "ea") | walk_at "ed"))
local macro_rules | `(tactic| walk_at "set") => `(tactic| (refine' eo_seq (eo_set ?kz1) ?kz2; (case kz1 => walk_at "ed")))
local macro_rules | `(tactic| walk_at "et") => `(tactic| first
  | (refine' et_test ?kz1; (case kz1 => walk_at "ed"))
  | (refine' et_B ?kz1; (case kz1 => walk_at "ed"))
  | skip)
local macro_rules | `(tactic| walk_at "F") => `(tactic| (refine' eo_seq (eo_ifF (Et.is (et_test ?kz1) ?kz2) eo_next) ?kz3; (case kz1 => walk_at "ed"); (case kz2 => decide)))
local macro_rules | `(tactic| walk_at "T") => `(tactic| (refine' eo_ret1 (eo_ifT (Et.is (et_test ?kz1) ?kz2) (eo_ret ?kz3)); (case kz1 => walk_at "ed"); (case kz2 => decide)))
local macro_rules | `(tactic| walk_at "TB") => `(tactic| (refine' eo_ret1 (eo_ifT (Et.is (et_test ?kz1) ?kz2) ?kz3); (case kz1 => walk_at "ed"); (case kz2 => decide)))

/-! ### rows -/
theorem rwAll_snoc {N : Type} (b : Option Int) (r : Rt N) : ∀ (rs : List (Rt N)) (acc : Nat → Int) (j : Nat), rwAll (rs ++ [r]) b acc j = conv (fun i => rwAll rs b acc i) (fun i => rw r b i) j
  | [], acc, j => by
    rw [List.nil_append, rwAll, rwAll]
    rfl
  | x :: rs, acc, j => by
    rw [List.cons_append, rwAll, rwAll_snoc b r rs]
    rfl
theorem rwOne_snoc {N : Type} (b : Option Int) (r : Rt N) : ∀ (rs : List (Rt N)) (acc : Nat → Int) (j : Nat), rwOne (rs ++ [r]) b acc j = max (rwOne rs b acc j) (rw r b j)
  | [], acc, j => by
    rw [List.nil_append, rwOne, rwOne, rwOne]
  | x :: rs, acc, j => by
    rw [List.cons_append, rwOne, rwOne_snoc b r rs, rwOne]
def rowD (f : Nat → Int) (m : Nat) : PD := .list ((List.range (m + 1)).map fun j => .int (f j))
theorem rowD_congr {f g : Nat → Int} {m : Nat} (h : ∀ j, f j = g j) : rowD f m = rowD g m := by
  rw [show f = g from funext h]
theorem upTo_nat (m : Nat) : upTo ((m : Int) + 1) = (List.range (m + 1)).map fun (j : Nat) => PyData.int (j : Int) := by
  unfold upTo
  rw [show ((m : Int) + 1).toNat = m + 1 by omega]
theorem ixN_nat {n i : Nat} (h : i < n) : ixN n (i : Int) = some i := by
  unfold L2.ixN
  rw [if_pos (by omega), if_pos (by omega), Int.toNat_natCast]
theorem atI_row {f : Nat → Int} {m i : Nat} (h : i ≤ m) : atI ((List.range (m + 1)).map fun j => PyData.int (f j)) (i : Int) = some (.int (f i)) := by
  unfold L2.atI
  rw [List.length_map, List.length_range, ixN_nat (by omega)]
  show ((List.range (m + 1)).map fun j => PyData.int (f j))[i]? = _
  rw [List.getElem?_map, List.getElem?_range (by omega)]
  rfl
def Bk (b : Option Int) : Prop := ∀ x, b = some x → 1 ≤ x ∧ x ≤ 1000000
theorem rep1 (d : PD) : ∀ k : Nat, (List.replicate k [d]).flatten = (List.range k).map fun _ => d
  | 0 => rfl
  | k + 1 => by
    rw [List.replicate_succ', List.flatten_append, rep1 d k, List.range_succ, List.map_append]
    rfl
theorem zipWith_self {α β : Type} (f : α → α → β) : ∀ l : List α, List.zipWith f l l = l.map fun x => f x x
  | [] => rfl
  | x :: l => by
    rw [List.zipWith_cons_cons, zipWith_self f l]
    rfl
section
variable {ρ : En} {K : PySem.W.Frag} {te : TE}
theorem ed_maxT {i j : Int} (h : Ed ρ te (.tuple [.int i, .int j])) : Ed ρ (tCB (fun vs H Q => ∃ a i j, vs = [.ref a] ∧ SqT K H a [.int i, .int j] ∧ Q (.int (max i j)) H) (tCons te tNil)) (.int (max i j)) := ed_cb1 h fun v H Q hv q => by
  obtain ⟨a, xs, rfl, h1, h2⟩ := hv.of_tup
  rw [DvAll.ints (ns := [i, j]) h2] at h1
  exact ⟨a, i, j, rfl, h1.seq, q _ H (Same.refl H) (.int _)⟩
end
section
variable {P : Program} {w : World} {K : PySem.W.Frag} {mg : Str → Option Value} {base : Heap}
theorem ed_cutI {ρ : En} {ta tb tc : TE} {m : Int} {b : Option Int} (hb : Ed ρ tb (encB b)) (ha : Ed ρ ta (.int m)) (hc : ∀ x, b = some x → Ed ρ tc (.int (min m (x - 1)))) :
    Ed ρ (tIf (tTest (tOp (fun x y H Q => y = .non ∧ Q (.bl (decide (x = .non))) H) tb (tC .non))) ta tc) (.int (cut m b)) := by
  cases b with
  | none => exact ed_ifT (Et.is (et_test (ed_isN hb)) rfl) ha
  | some x => exact ed_ifF (Et.is (et_test (ed_isN hb)) rfl) (hc x rfl)
abbrev s_law_row : Stmt := topS 31
abbrev n_law_row : List Str := ["_law_right_here", "_law_bound", "_law_many", "_law_word", "_law_cut", "_law_j", "_law_one", "_law_found", "_law_part", "_law_row_here", "_law_pair", "_law_i"]
theorem sc_law_row : FnScope n_law_row ["_law_right_here", "_law_bound", "_law_many"] (defScope s_law_row) := ⟨rfl, rfl, rfl, by decide +kernel, rfl, by decide +kernel, by decide +kernel⟩
abbrev spRow (n : Nat) : Sp := spD (fun a : Rt Str × Option Int × Nat => [encR a.1, encB a.2.1, .int a.2.2]) (fun a => rb a.1 ∧ dep a.1 ≤ n ∧ Bk a.2.1 ∧ a.2.2 ≤ 1000) fun a => rowD (fun j => rw a.1 a.2.1 j) a.2.2
theorem ok_law_row (D : Dfn K mg "_law_row" s_law_row ["_law_right_here", "_law_bound", "_law_many"]) (Z : Bi mg) : ∀ n : Nat, Cal P w K mg base "_law_row" n (spRow n)
  | 0 => D.vac (sp_vac fun r h => by have := dep_pos r.1; omega)
  | n + 1 => by
    have C_law_row := ok_law_row D Z n
    refine D.cal fun f fd F => def_ok F sc_law_row (fun _ => rfl) fun cdv A outer s H E hr => ?_
    refine ⟨_, (pss_cons (ps_set (i := 3) sc_law_row.nd rfl (Or.inl rfl) (pe_ix ix_tup (pv 0) pe_int (fun _ _ => rfl)))
    (pss_cons (ps_if (pt_cmpR op_eq (pv 3) pe_str (nomark _)) (pss_cons (ps_set (i := 4) sc_law_row.nd rfl (Or.inr rfl) (pe_ifExp (pt_cmpR op_isN (pv 1) pe_non (nomark _)) (pe_ix ix_tup (pv 0) pe_int (fun _ _ => rfl)) (pe_callB (call_min2 rfl) rfl Z.min bt_min (pa_cons (pe_ix ix_tup (pv 0) pe_int (fun _ _ => rfl)) (pa_cons (pe_op op_sub (pv 1) pe_int) pa_nil)))))
    (pss_one (ps_ret (pe_lc (own := [("_law_j", 5)]) (g := (gName 5)) (tt := tYes) rfl sc_law_row.nd (pi_range1 rfl Z.range (pa_cons (pe_op op_add (pv 2) pe_int) pa_nil)) (blkOk_by (own := [("_law_j", 5)]) (N := n_law_row) (sc := defScope s_law_row) (by decide +kernel)) (fun _ _ _ _ _ => (pg_name (i := 5) sc_law_row.nd rfl (Or.inl rfl))) (fun _ _ _ _ _ => pts_nil) (fun _ _ _ _ _ => (pe_op op_mul (pe_callB (call_min2 rfl) rfl Z.min bt_min (pa_cons (pe_ix (show IxR _ (rIxT K) from ix_tup) (pv 0) pe_int (fun _ _ => rfl)) (pa_cons (pv 5) pa_nil))) (pv 4))))))) pss_nil)
    (pss_cons (ps_if (pt_cmpR op_eq (pv 3) pe_str (nomark _)) (pss_one (ps_ret (pe_lc (own := [("_law_one", 6)]) (g := (gName 6)) (tt := tYes) rfl sc_law_row.nd (pi_list (pe_cal C_law_row (hr.mono (by omega)) rfl (pa_cons (pe_ix ix_tup (pv 0) pe_int (fun _ _ => rfl)) (pa_cons (pv 1) (pa_cons (pv 2) pa_nil))))) (blkOk_by (own := [("_law_one", 6)]) (N := n_law_row) (sc := defScope s_law_row) (by decide +kernel)) (fun _ _ _ _ _ => (pg_name (i := 6) sc_law_row.nd rfl (Or.inl rfl))) (fun _ _ _ _ _ => pts_nil) (fun _ _ _ _ _ => (pe_callB (call_min2 rfl) rfl Z.min bt_min (pa_cons (pe_ix (show IxR _ (rIxT K) from ix_tup) (pv 0) pe_int (fun _ _ => rfl)) (pa_cons (pv 6) pa_nil))))))) pss_nil)
    (pss_cons (ps_if (pt_cmpR op_eq (pv 3) pe_str (nomark _)) (pss_cons (ps_set (i := 7) sc_law_row.nd rfl (Or.inr rfl) (pe_cal C_law_row (hr.mono (by omega)) rfl (pa_cons (pe_ix ix_tup (pv 0) pe_int (fun _ _ => rfl)) (pa_cons (pv 1) (pa_cons (pv 2) pa_nil)))))
    (pss_one (ps_ret (pe_lc (own := [("_law_j", 5)]) (g := (gName 5)) (tt := tYes) rfl sc_law_row.nd (pi_range1 rfl Z.range (pa_cons (pe_op op_add (pv 2) pe_int) pa_nil)) (blkOk_by (own := [("_law_j", 5)]) (N := n_law_row) (sc := defScope s_law_row) (by decide +kernel)) (fun _ _ _ _ _ => (pg_name (i := 5) sc_law_row.nd rfl (Or.inl rfl))) (fun _ _ _ _ _ => pts_nil) (fun _ _ _ _ _ => (pe_ix (show IxR _ (rIxL K) from ix_list) (pv 7) (pe_callB (call_min2 rfl) rfl Z.min bt_min (pa_cons (pv 5) (pa_cons (pe_ix (show IxR _ (rIxT K) from ix_tup) (pv 0) pe_int (fun _ _ => rfl)) pa_nil))) (fun _ _ => rfl))))))) pss_nil)
    (pss_cons (ps_set (i := 7) sc_law_row.nd rfl (Or.inr rfl) (pe_op op_rep (pe_lst (pa_cons pe_int pa_nil)) (pe_op op_add (pv 2) pe_int)))
    (pss_cons (ps_if (pt_cmpR op_eq (pv 3) pe_str (nomark _)) (pss_one (ps_ret (pv 7))) pss_nil)
    (pss_cons (ps_for PassesOwn.never rfl (pi_tup (pe_ix ix_tup (pv 0) pe_int (fun _ _ => rfl))) (pg_name (i := 8) sc_law_row.nd rfl (Or.inl rfl))
      (pss_cons (ps_set (i := 9) sc_law_row.nd rfl (Or.inr rfl) (pe_cal C_law_row (hr.mono (by omega)) rfl (pa_cons (pv 8) (pa_cons (pv 1) (pa_cons (pv 2) pa_nil)))))
    (pss_one (ps_if (pt_cmpR op_eq (pv 3) pe_str (nomark _)) (pss_one (ps_set (i := 7) sc_law_row.nd rfl (Or.inr rfl) (pe_lc (own := [("_law_pair", 10)]) (g := (gName 10)) (tt := tYes) rfl sc_law_row.nd (pi_zN rfl Z.zip (pa_cons (pv 7) (pa_cons (pv 9) pa_nil))) (blkOk_by (own := [("_law_pair", 10)]) (N := n_law_row) (sc := defScope s_law_row) (by decide +kernel)) (fun _ _ _ _ _ => (pg_name (i := 10) sc_law_row.nd rfl (Or.inl rfl))) (fun _ _ _ _ _ => pts_nil) (fun _ _ _ _ _ => (pe_callB (show CallR _ (.builtin "max") (rMaxT K) from (cr_maxT rfl (Nat.lt_trans (Nat.add_lt_add_left (by decide : 1 < 64) _) hr.units))) rfl Z.max bt_max (pa_cons (pv 10) pa_nil)))))) (pss_one (ps_set (i := 7) sc_law_row.nd rfl (Or.inr rfl) (pe_lc (own := [("_law_j", 5)]) (g := (gName 5)) (tt := tYes) rfl sc_law_row.nd (pi_range1 rfl Z.range (pa_cons (pe_op op_add (pv 2) pe_int) pa_nil)) (blkOk_by (own := [("_law_j", 5)]) (N := n_law_row) (sc := defScope s_law_row) (by decide +kernel)) (fun _ _ _ _ _ => (pg_name (i := 5) sc_law_row.nd rfl (Or.inr rfl))) (fun _ _ _ _ _ => pts_nil) (fun _ _ _ _ _ => (pe_callB (show CallR _ (.builtin "max") (rMax K) from (cr_max rfl)) rfl Z.max bt_max (pa_cons (pe_lc (own := [("_law_i", 11)]) (g := (gName 11)) (tt := tYes) rfl sc_law_row.nd (pi_range1 rfl Z.range (pa_cons (pe_op op_add (pv 5) pe_int) pa_nil)) (blkOk_by (own := [("_law_i", 11)]) (Eq.refl true)) (fun _ _ _ _ _ => (pg_name (i := 11) sc_law_row.nd rfl (Or.inl rfl))) (fun _ _ _ _ _ => pts_nil) (fun _ _ _ _ _ => (pe_op op_add (pe_ix (show IxR _ (rIxL K) from ix_list) (pv 7) (pv 11) (fun _ _ => rfl)) (pe_ix (show IxR _ (rIxL K) from ix_list) (pv 9) (pe_op op_sub (pv 5) (pv 11)) (fun _ _ => rfl))))) pa_nil))))))))))
    (pss_one (ps_ret (pv 7)))))))))), fun r hp => ?_⟩
    obtain ⟨r, b, mm⟩ := r
    obtain ⟨hb, hd, hk, hm⟩ := hp
    simp only at hb hd hk hm
    have ek : ∀ {ρ : En} {i : Nat}, ρ[i]? = some (some (encB b)) → Ed ρ (tVar i) (encB b) := fun h => ed_var h
    cases r with
    | none =>
      show Eo [some (.tuple [.str "none"]), some (encB b), some (.int mm), none, none, none, none, none, none, none, none, none] _ _
      walk_at "set"
      walk_at "F"
      walk_at "F"
      walk_at "F"
      refine' eo_seq (eo_set (ed_rep (by walk_at "ed") (by walk_at "ed") ?k1_12 ?k2_12 ?k3_12)) ?k4_12
      case k1_12 => omega
      case k2_12 => omega
      case k3_12 => show 1 * _ ≤ _; omega
      rw [show ((mm : Int) + 1).toNat = mm + 1 by omega, rep1]
      walk_at "T"
      refine Ed.is (ed_var rfl) ?_
      show PyData.list _ = PyData.list _
      simp only [rw]
    | call nm m t =>
      rw [rb] at hb
      show Eo [some (.tuple [.str "call", .str nm, .int m, .int t]), some (encB b), some (.int mm), none, none, none, none, none, none, none, none, none] _ _
      walk_at "set"
      walk_at "TB"
      refine' eo_seq (eo_set (ed_cutI (b := b) (m := m) (ed_var rfl) (by walk_at "ed") ?k1_13)) ?k4_13
      case k1_13 =>
        rintro x rfl
        exact ed_min2 (by walk_at "ed") (ed_sub (ed_var rfl) (by walk_at "ed"))
      refine' eo_ret (ed_lcm (l := List.range (mm + 1)) (enc := fun j => .int (j : Int)) (f := fun j => .int (rw (.call nm m t) b j)) (Ei.is (ei_range (n := (mm : Int) + 1) ?k5_13 ?k6_13 ?k7_13) (upTo_nat mm)) ?k8_13 ?k9_13)
      case k5_13 => walk_at "ed"
      case k6_13 => omega
      case k7_13 => omega
      case k8_13 =>
        intro j hj
        refine ⟨_, _, eg_name, by decide, rfl, ?_⟩
        refine Ed.is (ed_mul (ed_min2 (by walk_at "ed") (by walk_at "ed")) (ed_var rfl) (.inl ⟨by omega, by omega⟩)) ?_
        rw [rw]
      case k9_13 => rw [List.length_range]; omega
    | within m q =>
      rw [rb] at hb
      rw [dep] at hd
      show Eo [some (.tuple [.str "within", .int m, encR q]), some (encB b), some (.int mm), none, none, none, none, none, none, none, none, none] _ _
      walk_at "set"
      walk_at "F"
      walk_at "TB"
      refine' eo_ret (ed_lcm (l := List.range (mm + 1)) (enc := fun j => .int (rw q b j)) (f := fun j => .int (rw (.within m q) b j)) (ei_list (ed_call (q, b, mm) ?k5_14 ?k6_14)) ?k8_14 ?k9_14)
      case k5_14 => exact ea_cons (by walk_at "ed") (ea_cons (ed_var rfl) (ea_cons (by walk_at "ed") ea_nil))
      case k6_14 => exact ⟨hb.2.2, (by show dep q ≤ n; omega), hk, hm⟩
      case k8_14 =>
        intro j hj
        refine ⟨_, _, eg_name, by decide, rfl, ?_⟩
        refine Ed.is (ed_min2 (by walk_at "ed") (by walk_at "ed")) ?_
        rw [rw]
      case k9_14 => rw [List.length_range]; omega
    | calls m q =>
      rw [rb] at hb
      rw [dep] at hd
      show Eo [some (.tuple [.str "calls", .int m, encR q]), some (encB b), some (.int mm), none, none, none, none, none, none, none, none, none] _ _
      walk_at "set"
      walk_at "F"
      walk_at "F"
      walk_at "TB"
      refine' eo_seq (eo_set (ed_call (q, b, mm) ?k1_15 ?k2_15)) ?k4_15
      case k1_15 => exact ea_cons (by walk_at "ed") (ea_cons (ed_var rfl) (ea_cons (by walk_at "ed") ea_nil))
      case k2_15 => exact ⟨hb.2.2, (by show dep q ≤ n; omega), hk, hm⟩
      refine' eo_ret (ed_lcm (l := List.range (mm + 1)) (enc := fun j => .int (j : Int)) (f := fun j => .int (rw (.calls m q) b j)) (Ei.is (ei_range (n := (mm : Int) + 1) ?k5_15 ?k6_15 ?k7_15) (upTo_nat mm)) ?k8_15 ?k9_15)
      case k5_15 => walk_at "ed"
      case k6_15 => omega
      case k7_15 => omega
      case k8_15 =>
        intro j hj
        have hj := List.mem_range.mp hj
        refine ⟨_, _, eg_name, by decide, rfl, ?_⟩
        refine ed_ixL (ed_var rfl) (ed_min2 (by walk_at "ed") (by walk_at "ed")) ?_
        rw [rw, show min (j : Int) m = ((min j m.toNat : Nat) : Int) by omega]
        exact atI_row (by show _ ≤ mm; omega)
      case k9_15 => rw [List.length_range]; omega
    | all rs =>
      rw [rb] at hb
      rw [dep] at hd
      show Eo [some (.tuple [.str "all", .tuple (encRs rs)]), some (encB b), some (.int mm), none, none, none, none, none, none, none, none, none] _ _
      walk_at "set"
      walk_at "F"
      walk_at "F"
      walk_at "F"
      refine' eo_seq (eo_set (ed_rep (by walk_at "ed") (by walk_at "ed") ?k1_16 ?k2_16 ?k3_16)) ?k4_16
      case k1_16 => omega
      case k2_16 => omega
      case k3_16 => show 1 * _ ≤ _; omega
      rw [show ((mm : Int) + 1).toNat = mm + 1 by omega, rep1]
      walk_at "F"
      refine' eo_seq (Eo.less (eo_for (ds := rs.map encR) (fun i => [some (.tuple [.str "all", .tuple (encRs rs)]), some (encB b), some (.int mm), some (.str "all"), none, none, none, some (rowD (fun j => rwAll (rs.take i) b (fun _ => 0) j) mm), none, none, none, none]) (Ei.is (ei_tup ?k5_16) (encRs_map rs)) ?k6_16 ?k7_16) (Le.refl _)) ?k8_16
      case k5_16 => walk_at "ed"
      case k6_16 =>
        refine le_of ⟨rfl, rfl, rfl, rfl, ?_, trivial⟩
        show some (PyData.list _) = some (PyData.list _)
        simp only [List.take_zero, rwAll]
      case k7_16 =>
        intro i d hd2
        rw [List.getElem?_map] at hd2
        cases er : rs[i]? with
        | none => rw [er] at hd2; cases hd2
        | some q =>
          rw [er] at hd2
          cases hd2
          have hq : q ∈ rs := List.mem_of_getElem? er
          have hdq := deps_mem hq
          refine ⟨_, _, eg_name, ?_⟩
          refine' eo_seq (eo_set (ed_call (q, b, mm) ?m1_16 ?m2_16)) ?m4_16
          case m1_16 => exact ea_cons (by walk_at "ed") (ea_cons (ed_var rfl) (ea_cons (by walk_at "ed") ea_nil))
          case m2_16 => exact ⟨rbAll_mem hb.2 hq, (by show dep q ≤ n; omega), hk, hm⟩
          refine' eo_ifF (Et.is (et_test ?m5_16) ?m6_16) (Eo.less (eo_set (ed_lcm (l := List.range (mm + 1)) (enc := fun j => .int (j : Int)) (f := fun j => .int (rwAll (rs.take (i + 1)) b (fun _ => 0) j)) (Ei.is (ei_range (n := (mm : Int) + 1) ?m7_16 ?m8_16 ?m9_16) (upTo_nat mm)) ?m10_16 ?m11_16)) (le_of ?m12_16))
          case m5_16 => walk_at "ed"
          case m6_16 => decide
          case m7_16 => walk_at "ed"
          case m8_16 => omega
          case m9_16 => omega
          case m11_16 => rw [List.length_range]; omega
          case m12_16 => exact ⟨rfl, rfl, rfl, rfl, rfl, trivial⟩
          case m10_16 =>
            intro j hj
            have hj := List.mem_range.mp hj
            refine ⟨_, _, eg_name, by decide, rfl, ?_⟩
            have et : rs.take (i + 1) = rs.take i ++ [q] := by rw [List.take_add_one, er]; rfl
            rw [et, rwAll_snoc]
            refine ed_max (ns := (List.range (j + 1)).map fun x => rwAll (rs.take i) b (fun _ => 0) x + rw q b (j - x)) (ed_lcm (l := List.range (j + 1)) (enc := fun x => .int (x : Int)) (f := fun x => .int (rwAll (rs.take i) b (fun _ => 0) x + rw q b (j - x))) (Ei.is (ei_range (n := (j : Int) + 1) ?n1_16 ?n2_16 ?n3_16) (upTo_nat j)) ?n4_16 ?n5_16) ?n6_16 ?n7_16 ?n8_16
            case n1_16 => walk_at "ed"
            case n2_16 => omega
            case n3_16 => omega
            case n5_16 => rw [List.length_range]; omega
            case n6_16 => rw [List.map_map]; rfl
            case n7_16 => rw [List.length_map, List.length_range]; omega
            case n4_16 =>
              intro x hx
              have hx := List.mem_range.mp hx
              refine ⟨_, _, eg_name, by decide, rfl, ?_⟩
              refine ed_add (ed_ixL (ed_var rfl) (ed_var rfl) (atI_row (by omega))) (ed_ixL (ed_var rfl) (ed_sub (ed_var rfl) (ed_var rfl)) ?_)
              rw [show (j : Int) - (x : Int) = ((j - x : Nat) : Int) by omega]
              exact atI_row (f := fun j => rw q b j) (by show _ ≤ mm; omega)
            case n8_16 =>
              intro k k1 k2
              obtain ⟨x, hx, rfl⟩ := List.mem_map.mp k1
              have hx := List.mem_range.mp hx
              obtain ⟨y, hy, ey⟩ := maxTo_mem (f := fun i_1 => rwAll (rs.take i) b (fun _ => 0) i_1 + rw q b (j - i_1)) j
              have q1 := conv_ge (f := fun i_1 => rwAll (rs.take i) b (fun _ => 0) i_1) (g := fun i => rw q b i) (j := j) (i := x) (by omega)
              have q2 := k2 _ (List.mem_map.mpr ⟨y, List.mem_range.mpr (by omega), rfl⟩)
              have q3 : conv (fun i_1 => rwAll (rs.take i) b (fun _ => 0) i_1) (fun i => rw q b i) j = _ := ey
              simp only at q1 q2 q3
              omega
      refine eo_ret (Ed.is (ed_var rfl) ?_)
      rw [List.length_map, List.take_length]
      refine rowD_congr fun j => ?_
      rw [rw]
    | one rs =>
      rw [rb] at hb
      rw [dep] at hd
      show Eo [some (.tuple [.str "one", .tuple (encRs rs)]), some (encB b), some (.int mm), none, none, none, none, none, none, none, none, none] _ _
      walk_at "set"
      walk_at "F"
      walk_at "F"
      walk_at "F"
      refine' eo_seq (eo_set (ed_rep (by walk_at "ed") (by walk_at "ed") ?k1_17 ?k2_17 ?k3_17)) ?k4_17
      case k1_17 => omega
      case k2_17 => omega
      case k3_17 => show 1 * _ ≤ _; omega
      rw [show ((mm : Int) + 1).toNat = mm + 1 by omega, rep1]
      walk_at "F"
      refine' eo_seq (Eo.less (eo_for (ds := rs.map encR) (fun i => [some (.tuple [.str "one", .tuple (encRs rs)]), some (encB b), some (.int mm), some (.str "one"), none, none, none, some (rowD (fun j => rwOne (rs.take i) b (fun _ => 0) j) mm), none, none, none, none]) (Ei.is (ei_tup ?k5_17) (encRs_map rs)) ?k6_17 ?k7_17) (Le.refl _)) ?k8_17
      case k5_17 => walk_at "ed"
      case k6_17 =>
        refine le_of ⟨rfl, rfl, rfl, rfl, ?_, trivial⟩
        show some (PyData.list _) = some (PyData.list _)
        simp only [List.take_zero, rwOne]
      case k7_17 =>
        intro i d hd2
        rw [List.getElem?_map] at hd2
        cases er : rs[i]? with
        | none => rw [er] at hd2; cases hd2
        | some q =>
          rw [er] at hd2
          cases hd2
          have hq : q ∈ rs := List.mem_of_getElem? er
          have hdq := deps_mem hq
          refine ⟨_, _, eg_name, ?_⟩
          refine' eo_seq (eo_set (ed_call (q, b, mm) ?m1_17 ?m2_17)) ?m4_17
          case m1_17 => exact ea_cons (by walk_at "ed") (ea_cons (ed_var rfl) (ea_cons (by walk_at "ed") ea_nil))
          case m2_17 => exact ⟨rbAll_mem hb.2 hq, (by show dep q ≤ n; omega), hk, hm⟩
          refine' eo_ifT (Et.is (et_test ?m5_17) ?m6_17) (Eo.less (eo_set (ed_lcm (l := List.range (mm + 1)) (enc := fun j => .tuple [.int (rwOne (rs.take i) b (fun _ => 0) j), .int (rw q b j)]) (f := fun j => .int (rwOne (rs.take (i + 1)) b (fun _ => 0) j)) (Ei.is (ei_zN ?m7_17 ?m8_17) ?m9_17) ?m10_17 ?m11_17)) (le_of ?m12_17))
          case m5_17 => walk_at "ed"
          case m6_17 => decide
          case m7_17 => exact ed_var rfl
          case m8_17 => exact ed_var rfl
          case m9_17 => rw [List.zipWith_map, zipWith_self]
          case m11_17 => rw [List.length_range]; omega
          case m12_17 => exact ⟨rfl, rfl, rfl, rfl, rfl, trivial⟩
          case m10_17 =>
            intro j hj
            refine ⟨_, _, eg_name, by decide, rfl, ?_⟩
            have et : rs.take (i + 1) = rs.take i ++ [q] := by rw [List.take_add_one, er]; rfl
            rw [et, rwOne_snoc]
            exact ed_maxT (ed_var rfl)
      refine eo_ret (Ed.is (ed_var rfl) ?_)
      rw [List.length_map, List.take_length]
      refine rowD_congr fun j => ?_
      rw [rw]
end
end K27
end
section
set_option Elab.async false
set_option linter.all false
set_option maxRecDepth 100000
namespace K27
open PySem PySem.Spec PyProof.Rows L2

local macro_rules | `(tactic| walk_at "ed") => `(tactic| first
  | exact ed_var rfl | exact ed_int | exact ed_str | exact ed_non | exact ed_bl
  | (apply ed_ixT <;> first | rfl | walk_at "ed")
  | (apply ed_add <;> walk_at "ed")
  | (apply ed_sub <;> walk_at "ed")
  | (apply ed_min2 <;> walk_at "ed")
  | (apply ed_max2 <;> walk_at "ed")
  | (apply ed_eqS <;> walk_at "ed")
  | (apply ed_neS <;> walk_at "ed")
  | (apply ed_isN <;> walk_at "ed")
  | (apply ed_notN <;> walk_at "ed")
  | (apply ed_lt <;> walk_at "ed")
  | (apply ed_le <;> walk_at "ed")
  | (apply ed_gt <;> walk_at "ed")
  | (apply ed_ge <;> walk_at "ed")
  | (apply ed_mul <;> first | walk_at "ed" | skip)
  | (apply ed_in2 <;> walk_at "ed")
  | (apply ed_tup <;> first | (show EdA _ _ _; walk_at "ea") | (simp only [List.length_cons, List.length_nil]; decide) | skip)
  | (apply ed_lst <;> first | (show EdA _ _ _; walk_at "ea") | (simp only [List.length_cons, List.length_nil]; decide) | skip)
  | skip)
local macro_rules | `(tactic| walk_at "ea") => `(tactic| first
  | exact ea_nil
  | (apply ea_cons <;> first | (show EdA _ _ _; walk_at "ea") | walk_at "ed"))
local macro_rules | `(tactic| walk_at "set") => `(tactic| (refine' eo_seq (eo_set ?kz1) ?kz2; (case kz1 => walk_at "ed")))
local macro_rules | `(tactic| walk_at "et") => `(tactic| first
  | (refine' et_test ?kz1; (case kz1 => walk_at "ed"))
  | (refine' et_B ?kz1; (case kz1 => walk_at "ed"))
  | skip)
local macro_rules | `(tactic| walk_at "F") => `(tactic| (refine' eo_seq (eo_ifF (Et.is (et_test ?kz1) ?kz2) eo_next) ?kz3; (case kz1 => walk_at "ed"); (case kz2 => decide)))
local macro_rules | `(tactic| walk_at "T") => `(tactic| (refine' eo_ret1 (eo_ifT (Et.is (et_test ?kz1) ?kz2) (eo_ret ?kz3)); (case kz1 => walk_at "ed"); (case kz2 => decide)))
local macro_rules | `(tactic| walk_at "TB") => `(tactic| (refine' eo_ret1 (eo_ifT (Et.is (et_test ?kz1) ?kz2) ?kz3); (case kz1 => walk_at "ed"); (case kz2 => decide)))

theorem atI_last {f : Nat → Int} {m : Nat} : atI ((List.range (m + 1)).map fun j => PyData.int (f j)) (-1) = some (.int (f m)) := by
  unfold L2.atI
  rw [List.length_map, List.length_range]
  have e : ixN (m + 1) (-1) = some m := by
    unfold L2.ixN
    rw [if_neg (by omega), if_pos (by omega)]
    congr 1
    omega
  rw [e]
  show ((List.range (m + 1)).map fun j => PyData.int (f j))[m]? = _
  rw [List.getElem?_map, List.getElem?_range (by omega)]
  rfl
theorem first_bad {α : Type} (f : α → Bool) : ∀ l : List α, ¬ (l.all fun x => !f x) = true → ∃ (k : Nat) (x : α), l[k]? = some x ∧ (∀ (j : Nat) (y : α), j < k → l[j]? = some y → f y = false) ∧ f x = true
  | [], h => absurd rfl h
  | a :: l, h => by
    cases ha : f a with
    | true => exact ⟨0, a, rfl, fun j y hj => absurd hj (Nat.not_lt_zero _), ha⟩
    | false =>
      obtain ⟨k, x, h1, h2, h3⟩ := first_bad f l (by simpa [ha] using h)
      refine ⟨k + 1, x, by simpa using h1, fun j y hj e => ?_, h3⟩
      cases j with
      | zero =>
        simp at e
        rw [← e]
        exact ha
      | succ j => exact h2 j y (by omega) (by simpa using e)
theorem ed_neg {ρ : En} {ta : TE} {i : Int} (h : Ed ρ ta (.int i)) : Ed ρ (tUn (rU fun i => .int (-i)) ta) (.int (-i)) := fun σ H Q s q => h σ H _ s fun v H1 e1 h1 => by
  cases h1
  exact ⟨i, rfl, q _ H1 e1 (.int _)⟩
theorem Bk.bd {b : Option Int} (h : Bk b) : Bd b := fun x e => (h x e).1
theorem len_k {q : Rt Str} (hb : rb q) (k : Int) (hk : 1 ≤ k) (h2 : k ≤ 1000) : ∃ m : Nat, min k (len q) = (m : Int) ∧ m ≤ 1000 ∧ (min k (len q)).toNat = m := by
  have := len_nn q (rb_ok q hb)
  exact ⟨(min k (len q)).toNat, by omega, by omega, rfl⟩
theorem cutD_pre (ds : List PD) (k : Nat) (h : k ≤ ds.length) : cutD ds none (some (k : Int)) = ds.take k := by
  have e1 : HT.sIx ds.length 0 none = 0 := rfl
  have e2 : HT.sIx ds.length ds.length (some (k : Int)) = k := by
    rw [HT.sIx_nat]
    omega
  unfold cutD
  rw [e1, e2, List.drop_zero, Nat.sub_zero]
theorem cutD_post (ds : List PD) (k : Nat) (h : k ≤ ds.length) : cutD ds (some (k : Int)) none = ds.drop k := by
  have e1 : HT.sIx ds.length 0 (some (k : Int)) = k := by
    rw [HT.sIx_nat]
    omega
  have e2 : HT.sIx ds.length ds.length none = ds.length := rfl
  unfold cutD
  rw [e1, e2]
  exact List.take_of_length_le (by rw [List.length_drop]; exact Nat.le_refl _)
theorem behind_find (nm : Str) (a : Int) : ∀ rs : List (Rt Str), ((∀ r ∈ rs, behind r nm a = none) ∧ behindAll rs nm a = none ∧ behindOne rs nm a = none) ∨
    ∃ (k : Nat) (i r : Rt Str), rs[k]? = some r ∧ (∀ (j : Nat) (r' : Rt Str), j < k → rs[j]? = some r' → behind r' nm a = none) ∧ behind r nm a = some i ∧ behindAll rs nm a = some (rs.take k ++ i :: rs.drop (k + 1)) ∧ behindOne rs nm a = some i
  | [] => .inl ⟨fun r h => (nomatch h), by simp [behindAll], by simp [behindOne]⟩
  | x :: rs => by
    cases hx : behind x nm a with
    | some i => exact .inr ⟨0, i, x, rfl, fun j r' h => absurd h (Nat.not_lt_zero _), hx, by simp [behindAll, hx], by simp [behindOne, hx]⟩
    | none =>
      rcases behind_find nm a rs with ⟨h1, h2, h3⟩ | ⟨k, i, r, h1, h2, h3, h4, h5⟩
      · refine .inl ⟨fun r hr => ?_, by simp [behindAll, hx, h2], by simp [behindOne, hx, h3]⟩
        rcases List.mem_cons.mp hr with e | hr
        · rw [e]
          exact hx
        · exact h1 r hr
      · refine .inr ⟨k + 1, i, r, by simpa using h1, fun j r' hj e => ?_, h3, by simp [behindAll, hx, h4], by simp [behindOne, hx, h5]⟩
        cases j with
        | zero =>
          simp at e
          rw [← e]
          exact hx
        | succ j => exact h2 j r' (by omega) (by simpa using e)
def optR : Option (Rt Str) → PD
  | none => .none
  | some r => encR r
theorem counted_get {ds : List PD} {i : Nat} {d : PD} (h : (counted ds)[i]? = some d) : ∃ e, ds[i]? = some e ∧ d = .tuple [.int (i : Int), e] := by
  unfold counted at h
  rw [List.getElem?_map] at h
  cases e : (List.range ds.length)[i]? with
  | none =>
    rw [e] at h
    cases h
  | some j =>
    rw [e] at h
    obtain ⟨hl, hj⟩ := List.getElem?_eq_some_iff.mp e
    rw [List.getElem_range] at hj
    subst hj
    rw [List.length_range] at hl
    refine ⟨ds[i], List.getElem?_eq_getElem hl, ?_⟩
    cases h
    show PyData.tuple [.int (i : Int), ds.getD i .none] = _
    rw [List.getD_eq_getElem?_getD, List.getElem?_eq_getElem hl]
    rfl
mutual
def namesR : Rt Str → List Str
  | .none => []
  | .call nm _ _ => [nm]
  | .within _ r => namesR r
  | .calls _ r => namesR r
  | .all rs => namesRs rs
  | .one rs => namesRs rs
def namesRs : List (Rt Str) → List Str
  | [] => []
  | r :: rs => namesR r ++ namesRs rs
end
theorem namesRs_app : ∀ (rs qs : List (Rt Str)), namesRs (rs ++ qs) = namesRs rs ++ namesRs qs
  | [], qs => by rw [List.nil_append, namesRs, List.nil_append]
  | r :: rs, qs => by rw [List.cons_append, namesRs, namesRs_app rs qs, namesRs, List.append_assoc]
theorem isNone_encR : ∀ r : Rt Str, isNone (encR r) = false
  | .none => rfl
  | .call _ _ _ => rfl
  | .within _ _ => rfl
  | .calls _ _ => rfl
  | .all _ => rfl
  | .one _ => rfl
section
variable {P : Program} {w : World} {K : PySem.W.Frag} {mg : Str → Option Value} {base : Heap}
/-! ### tops -/
abbrev s_law_top : Stmt := topS 32
abbrev n_law_top : List Str := ["_law_right_here", "_law_bound", "_law_word", "_law_tops", "_law_part"]
theorem sc_law_top : FnScope n_law_top ["_law_right_here", "_law_bound"] (defScope s_law_top) := ⟨rfl, rfl, rfl, by decide +kernel, rfl, by decide +kernel, by decide +kernel⟩
abbrev spTop (n : Nat) : Sp := spD (fun a : Rt Str × Option Int => [encR a.1, encB a.2]) (fun a => rb a.1 ∧ dep a.1 ≤ n ∧ Bk a.2) fun a => .int (top a.1 a.2)
theorem ok_law_top (D : Dfn K mg "_law_top" s_law_top ["_law_right_here", "_law_bound"]) (Z : Bi mg) (hR : ∀ n, Cal P w K mg base "_law_row" n (spRow n)) (hL : ∀ n, Cal P w K mg base "_law_length" n (spLen n)) : ∀ n : Nat, Cal P w K mg base "_law_top" n (spTop n)
  | 0 => D.vac (sp_vac fun r h => by have := dep_pos r.1; omega)
  | n + 1 => by
    have C_law_top := ok_law_top D Z hR hL n
    have C_law_row := hR n
    have C_law_length := hL n
    refine D.cal fun f fd F => def_ok F sc_law_top (fun _ => rfl) fun cdv A outer s H E hr => ?_
    refine ⟨_, (pss_cons (ps_set (i := 2) sc_law_top.nd rfl (Or.inl rfl) (pe_ix ix_tup (pv 0) pe_int (fun _ _ => rfl)))
    (pss_cons (ps_if (pt_cmpR op_eq (pv 2) pe_str (nomark _)) (pss_one (ps_ret (pe_op op_mul (pe_ix ix_tup (pv 0) pe_int (fun _ _ => rfl)) (pe_ifExp (pt_cmpR op_isN (pv 1) pe_non (nomark _)) (pe_ix ix_tup (pv 0) pe_int (fun _ _ => rfl)) (pe_callB (call_min2 rfl) rfl Z.min bt_min (pa_cons (pe_ix ix_tup (pv 0) pe_int (fun _ _ => rfl)) (pa_cons (pe_op op_sub (pv 1) pe_int) pa_nil))))))) pss_nil)
    (pss_cons (ps_if (pt_cmpR op_eq (pv 2) pe_str (nomark _)) (pss_one (ps_ret (pe_callB (call_min2 rfl) rfl Z.min bt_min (pa_cons (pe_ix ix_tup (pv 0) pe_int (fun _ _ => rfl)) (pa_cons (pe_cal C_law_top (hr.mono (by omega)) rfl (pa_cons (pe_ix ix_tup (pv 0) pe_int (fun _ _ => rfl)) (pa_cons (pv 1) pa_nil))) pa_nil))))) pss_nil)
    (pss_cons (ps_if (pt_cmpR op_eq (pv 2) pe_str (nomark _)) (pss_one (ps_ret (pe_ix ix_list (pe_cal C_law_row (hr.mono (by omega)) rfl (pa_cons (pe_ix ix_tup (pv 0) pe_int (fun _ _ => rfl)) (pa_cons (pv 1) (pa_cons (pe_callB (call_min2 rfl) rfl Z.min bt_min (pa_cons (pe_ix ix_tup (pv 0) pe_int (fun _ _ => rfl)) (pa_cons (pe_cal C_law_length (hr.mono (by omega)) rfl (pa_cons (pe_ix ix_tup (pv 0) pe_int (fun _ _ => rfl)) pa_nil)) pa_nil))) pa_nil)))) (pe_un un_neg pe_int) (fun _ _ => rfl)))) pss_nil)
    (pss_cons (ps_if (pt_cmpR op_eq (pv 2) pe_str (nomark _)) (pss_one (ps_ret pe_int)) pss_nil)
    (pss_cons (ps_setLc (i := 3) (own := [("_law_part", 4)]) (g := (gName 4)) (tt := tYes) rfl sc_law_top.nd rfl rfl (sw_true rfl rfl rfl (by decide +kernel)) (pi_tup (pe_ix ix_tup (pv 0) pe_int (fun _ _ => rfl))) (blkOk_by (own := [("_law_part", 4)]) (N := n_law_top) (sc := defScope s_law_top) (by decide +kernel)) (fun _ _ _ _ _ => (pg_name (i := 4) sc_law_top.nd rfl (Or.inl rfl))) (fun _ _ _ _ _ => pts_nil) (fun _ _ _ _ _ => (pe_cal C_law_top (hr.mono (by omega)) rfl (pa_cons (pv 4) (pa_cons (pv 1) pa_nil)))))
    (pss_one (ps_ret (pe_ifExp (pt_cmpR op_eq (pv 2) pe_str (nomark _)) (pe_callB (cr_sum rfl) rfl Z.sum bt_sum (pa_cons (pv 3) pa_nil)) (pe_callB (cr_max rfl) rfl Z.max bt_max (pa_cons (pe_op op_cat (pv 3) (pe_lst (pa_cons pe_int pa_nil))) pa_nil))))))))))), fun r hp => ?_⟩
    obtain ⟨r, b⟩ := r
    obtain ⟨hb, hd, hk⟩ := hp
    simp only at hb hd hk
    cases r with
    | none =>
      show Eo [some (.tuple [.str "none"]), some (encB b), none, none, none] _ _
      walk_at "set"
      walk_at "F"
      walk_at "F"
      walk_at "F"
      walk_at "T"
      refine Ed.is ed_int ?_
      simp only [top]
    | call nm m t =>
      rw [rb] at hb
      show Eo [some (.tuple [.str "call", .str nm, .int m, .int t]), some (encB b), none, none, none] _ _
      walk_at "set"
      walk_at "T"
      refine Ed.is (ed_mul (j := cut m b) (by walk_at "ed") (ed_cutI (b := b) (m := m) (ed_var rfl) (by walk_at "ed") ?k1_18) (.inl ⟨by omega, by omega⟩)) ?k2_18
      case k1_18 =>
        rintro x rfl
        exact ed_min2 (by walk_at "ed") (ed_sub (ed_var rfl) (by walk_at "ed"))
      case k2_18 => simp only [top]
    | within m q =>
      rw [rb] at hb
      rw [dep] at hd
      show Eo [some (.tuple [.str "within", .int m, encR q]), some (encB b), none, none, none] _ _
      walk_at "set"
      walk_at "F"
      walk_at "T"
      refine Ed.is (ed_min2 (by walk_at "ed") (ed_call (q, b) (ea_cons (by walk_at "ed") (ea_cons (ed_var rfl) ea_nil)) ⟨hb.2.2, (by show dep q ≤ n; omega), hk⟩)) ?_
      simp only [top]
    | calls m q =>
      rw [rb] at hb
      rw [dep] at hd
      show Eo [some (.tuple [.str "calls", .int m, encR q]), some (encB b), none, none, none] _ _
      walk_at "set"
      walk_at "F"
      walk_at "F"
      walk_at "T"
      obtain ⟨mm, e1, e2, e3⟩ := len_k hb.2.2 m hb.1 hb.2.1
      refine Ed.is (ed_ixL (ds := (List.range (mm + 1)).map fun j => .int (rw q b j)) (i := -1) (ed_call (q, b, mm) ?k1_20 ⟨hb.2.2, (by show dep q ≤ n; omega), hk, e2⟩) ?k3_20 atI_last) ?k2_20
      case k1_20 =>
        refine ea_cons (by walk_at "ed") (ea_cons (ed_var rfl) (ea_cons ?_ ea_nil))
        refine Ed.is (ed_min2 (by walk_at "ed") (ed_call q (by walk_at "ea") ⟨hb.2.2, by omega⟩)) ?_
        rw [e1]
      case k2_20 =>
        simp only [top]
        rw [e3]
      case k3_20 => exact ed_neg ed_int
    | all rs =>
      rw [rb] at hb
      rw [dep] at hd
      show Eo [some (.tuple [.str "all", .tuple (encRs rs)]), some (encB b), none, none, none] _ _
      walk_at "set"
      walk_at "F"
      walk_at "F"
      walk_at "F"
      walk_at "F"
      refine' eo_seq (eo_set (ed_lcm (l := rs) (enc := encR) (f := fun r => .int (top r b)) (Ei.is (ei_tup ?k1_21) (encRs_map rs)) ?k2_21 ?k3_21)) ?k4_21
      case k1_21 => walk_at "ed"
      case k2_21 =>
        intro r hr
        exact ⟨_, _, eg_name, by decide, rfl, ed_call (r, b) (ea_cons (by walk_at "ed") (ea_cons (ed_var rfl) ea_nil)) ⟨rbAll_mem hb.2 hr, (by have := deps_mem hr; show dep r ≤ n; omega), hk⟩⟩
      case k3_21 => omega
      refine' eo_ret (ed_ifT (Et.is (et_test ?k5_21) ?k6_21) ?k7_21)
      case k5_21 => walk_at "ed"
      case k6_21 => decide
      refine Ed.is (ed_sum (ns := rs.map fun r => top r b) (ed_var rfl) ?k8_21) ?k9_21
      case k8_21 =>
        rw [List.map_map]
        rfl
      case k9_21 =>
        simp only [top]
        rw [topSum_eq]
    | one rs =>
      rw [rb] at hb
      rw [dep] at hd
      show Eo [some (.tuple [.str "one", .tuple (encRs rs)]), some (encB b), none, none, none] _ _
      walk_at "set"
      walk_at "F"
      walk_at "F"
      walk_at "F"
      walk_at "F"
      refine' eo_seq (eo_set (ed_lcm (l := rs) (enc := encR) (f := fun r => .int (top r b)) (Ei.is (ei_tup ?k1_22) (encRs_map rs)) ?k2_22 ?k3_22)) ?k4_22
      case k1_22 => walk_at "ed"
      case k2_22 =>
        intro r hr
        exact ⟨_, _, eg_name, by decide, rfl, ed_call (r, b) (ea_cons (by walk_at "ed") (ea_cons (ed_var rfl) ea_nil)) ⟨rbAll_mem hb.2 hr, (by have := deps_mem hr; show dep r ≤ n; omega), hk⟩⟩
      case k3_22 => omega
      refine' eo_ret (ed_ifF (Et.is (et_test ?k5_22) ?k6_22) ?k7_22)
      case k5_22 => walk_at "ed"
      case k6_22 => decide
      have hm := max_one (f := fun r => top r b) (m := fun rs => topMax rs b) (by simp only [topMax]) (fun r rs => by simp only [topMax]) rs
      refine Ed.is (ed_max (ns := rs.map (fun r => top r b) ++ [0]) (ed_cat (ed_var rfl) (by walk_at "ed") ?k8_22) ?k9_22 ?k10_22 hm) ?k11_22
      case k8_22 => rw [List.length_map]; show rs.length + 1 ≤ _; omega
      case k9_22 => rw [List.map_append, List.map_map]; rfl
      case k10_22 => rw [List.length_append]; show 0 < _ + 1; omega
      case k11_22 => simp only [top]
/-! ### a till serves a right -/
abbrev s_law_holds : Stmt := topS 33
abbrev n_law_holds : List Str := ["_law_pile", "_law_right_here", "_law_worth", "_law_many"]
theorem sc_law_holds : FnScope n_law_holds ["_law_pile", "_law_right_here"] (defScope s_law_holds) := ⟨rfl, rfl, rfl, by decide +kernel, rfl, by decide +kernel, by decide +kernel⟩
abbrev spHolds (n : Nat) : Sp := spD (fun a : Pile × Rt Str => [encP a.1, encR a.2]) (fun a => PB a.1 ∧ rb a.2 ∧ dep a.2 ≤ n) fun a => .bool (holds a.1 a.2)
theorem ok_law_holds (D : Dfn K mg "_law_holds" s_law_holds ["_law_pile", "_law_right_here"]) (Z : Bi mg) (hT : ∀ n, Cal P w K mg base "_law_top" n (spTop n)) (C_law_under : Cal P w K mg base "_law_under" 1 spUnder) (C_law_sum : Cal P w K mg base "_law_sum" 1 spSum) (n : Nat) (hn : 1 ≤ n) : Cal P w K mg base "_law_holds" (n + 1) (spHolds n) := by
    have C_law_top := hT n
    refine D.cal fun f fd F => def_ok F sc_law_holds (fun _ => rfl) fun cdv A outer s H E hr => ?_
    refine ⟨_, (pss_cons (ps_for PassesOwn.never rfl (pi_tup (pv 0)) (pg_tup rfl (pgs_cons (pg_name (i := 2) sc_law_holds.nd rfl (Or.inl rfl)) (pgs_cons (pg_name (i := 3) sc_law_holds.nd rfl (Or.inl rfl)) pgs_nil)))
      (pss_one (ps_if (PW.pt (pw_and (pt_cmpR op_gt (pv 2) pe_int (nomark _)) (pw_and1 (pt_cmpR op_gt (pe_cal C_law_top (hr.mono (by omega)) rfl (pa_cons (pv 1) (pa_cons (pv 2) pa_nil))) (pe_cal C_law_under (hr.mono (by omega)) rfl (pa_cons (pv 0) (pa_cons (pv 2) pa_nil))) (nomark _))))) (pss_one (ps_ret pe_bl)) pss_nil)))
    (pss_one (ps_ret (pe_cmpR op_le (pe_cal C_law_top (hr.mono (by omega)) rfl (pa_cons (pv 1) (pa_cons pe_non pa_nil))) (pe_cal C_law_sum (hr.mono (by omega)) rfl (pa_cons (pv 0) pa_nil)) (nomark _))))), fun r hp => ?_⟩
    obtain ⟨p, r⟩ := r
    obtain ⟨hP, hb, hd⟩ := hp
    simp only at hP hb hd
    show Eo [some (encP p), some (encR r), none, none] _ _
    have turn : ∀ (x : Int × Int) (c : Bool), x ∈ p → (decide (x.1 > 1) && decide (top r (some x.1) > lessOf p x.1)) = c → Et [some (encP p), some (encR r), some (.int x.1), some (.int x.2)]
        (tAnd (tTest (tOp (rI0 fun i j => .bl (decide (j < i))) (tVar 2) (tC (.int 1)))) (tTest (tOp (rI0 fun i j => .bl (decide (j < i))) (tCall (spTop n) [] E0 (tCons (tVar 1) (tCons (tVar 2) tNil))) (tCall spUnder [] E0 (tCons (tVar 0) (tCons (tVar 2) tNil)))))) c := by
      intro x c hx hc
      have hw := hP.at_ x hx
      refine Et.is (et_and (et_test (b := decide (1 < x.1)) ?k1_23) fun _ => et_test (b := decide (lessOf p x.1 < top r (some x.1))) ?k2_23) hc
      case k1_23 => exact ed_gt (ed_var rfl) ed_int
      case k2_23 =>
        refine ed_gt (ed_call (r, some x.1) (ea_cons (ed_var rfl) (ea_cons (ed_var rfl) ea_nil)) ⟨hb, hd, fun y e => ?_⟩) (ed_call (p, x.1) (ea_cons (ed_var rfl) (ea_cons (ed_var rfl) ea_nil)) hP)
        cases e
        omega
    by_cases hall : (p.all fun x => !(decide (x.1 > 1) && decide (top r (some x.1) > lessOf p x.1))) = true
    · refine' eo_seq (eo_for (ds := p.map encL) (fun i => [some (encP p), some (encR r), none, none]) (ei_tup (ed_var rfl)) (le_of ?k3_23) ?k4_23) ?k5_23
      case k3_23 => exact ⟨rfl, rfl, trivial⟩
      case k4_23 =>
        intro i d hd2
        rw [List.getElem?_map] at hd2
        cases er : p[i]? with
        | none => rw [er] at hd2; cases hd2
        | some x =>
          rw [er] at hd2
          cases hd2
          refine ⟨_, _, eg_tup (egs_cons eg_name (egs_cons eg_name egs_nil)) rfl, ?_⟩
          have q := List.all_eq_true.mp hall x (List.mem_of_getElem? er)
          refine eo_ifF (turn x false (List.mem_of_getElem? er) ?_) (Eo.less eo_next (le_of ⟨rfl, rfl, trivial⟩))
          rw [Bool.not_eq_true'] at q
          exact q
      refine eo_ret (Ed.is (ed_le (ed_call (r, none) (ea_cons (ed_var rfl) (ea_cons ed_non ea_nil)) ⟨hb, hd, fun y e => nomatch e⟩) (ed_call p (ea_cons (ed_var rfl) ea_nil) hP)) ?_)
      show PyData.bool _ = PyData.bool (holds p r)
      rw [holds, hall, Bool.true_and]
    · obtain ⟨k, x, hk, hb4, hx⟩ : ∃ (k : Nat) (x : Int × Int), p[k]? = some x ∧ (∀ (j : Nat) (y : Int × Int), j < k → p[j]? = some y → (decide (y.1 > 1) && decide (top r (some y.1) > lessOf p y.1)) = false) ∧ (decide (x.1 > 1) && decide (top r (some x.1) > lessOf p x.1)) = true := first_bad (fun (x : Int × Int) => (decide (x.1 > 1) && decide (top r (some x.1) > lessOf p x.1))) p hall
      refine' eo_ret1 (eo_forR (ds := p.map encL) (fun i => [some (encP p), some (encR r), none, none]) k (ei_tup (ed_var rfl)) (le_of ?k6_23) ?k7_23 ?k8_23 ?k9_23)
      case k6_23 => exact ⟨rfl, rfl, trivial⟩
      case k7_23 =>
        rw [List.length_map]
        exact (List.getElem?_eq_some_iff.mp hk).1
      case k8_23 =>
        intro i d hi hd2
        rw [List.getElem?_map] at hd2
        cases er : p[i]? with
        | none => rw [er] at hd2; cases hd2
        | some x =>
          rw [er] at hd2
          cases hd2
          refine ⟨_, _, eg_tup (egs_cons eg_name (egs_cons eg_name egs_nil)) rfl, ?_⟩
          exact eo_ifF (turn x false (List.mem_of_getElem? er) (hb4 i x hi er)) (Eo.less eo_next (le_of ⟨rfl, rfl, trivial⟩))
      case k9_23 =>
        intro d hd2
        rw [List.getElem?_map, hk] at hd2
        cases hd2
        refine ⟨_, _, eg_tup (egs_cons eg_name (egs_cons eg_name egs_nil)) rfl, ?_⟩
        refine eo_ifT (turn x true (List.mem_of_getElem? hk) hx) (eo_ret (Ed.is ed_bl ?_))
        show PyData.bool _ = PyData.bool (holds p r)
        rw [holds, Bool.eq_false_iff.mpr hall, Bool.false_and]
end
end K27
end
section
set_option Elab.async false
set_option linter.all false
set_option maxRecDepth 100000
set_option maxHeartbeats 1000000
namespace K27
open PySem PySem.Spec PyProof.Rows L2

local macro_rules | `(tactic| walk_at "ed") => `(tactic| first
  | exact ed_var rfl | exact ed_int | exact ed_str | exact ed_non | exact ed_bl
  | (apply ed_ixT <;> first | rfl | walk_at "ed")
  | (apply ed_add <;> walk_at "ed")
  | (apply ed_sub <;> walk_at "ed")
  | (apply ed_min2 <;> walk_at "ed")
  | (apply ed_max2 <;> walk_at "ed")
  | (apply ed_eqS <;> walk_at "ed")
  | (apply ed_neS <;> walk_at "ed")
  | (apply ed_isN <;> walk_at "ed")
  | (apply ed_notN <;> walk_at "ed")
  | (apply ed_lt <;> walk_at "ed")
  | (apply ed_le <;> walk_at "ed")
  | (apply ed_gt <;> walk_at "ed")
  | (apply ed_ge <;> walk_at "ed")
  | (apply ed_mul <;> first | walk_at "ed" | skip)
  | (apply ed_in2 <;> walk_at "ed")
  | (apply ed_tup <;> first | (show EdA _ _ _; walk_at "ea") | (simp only [List.length_cons, List.length_nil]; decide) | skip)
  | (apply ed_lst <;> first | (show EdA _ _ _; walk_at "ea") | (simp only [List.length_cons, List.length_nil]; decide) | skip)
  | skip)
local macro_rules | `(tactic| walk_at "ea") => `(tactic| first
  | exact ea_nil
  | (apply ea_cons <;> first | (show EdA _ _ _; walk_at "ea") | walk_at "ed"))
local macro_rules | `(tactic| walk_at "set") => `(tactic| (refine' eo_seq (eo_set ?kz1) ?kz2; (case kz1 => walk_at "ed")))
local macro_rules | `(tactic| walk_at "et") => `(tactic| first
  | (refine' et_test ?kz1; (case kz1 => walk_at "ed"))
  | (refine' et_B ?kz1; (case kz1 => walk_at "ed"))
  | skip)
local macro_rules | `(tactic| walk_at "F") => `(tactic| (refine' eo_seq (eo_ifF (Et.is (et_test ?kz1) ?kz2) eo_next) ?kz3; (case kz1 => walk_at "ed"); (case kz2 => decide)))
local macro_rules | `(tactic| walk_at "T") => `(tactic| (refine' eo_ret1 (eo_ifT (Et.is (et_test ?kz1) ?kz2) (eo_ret ?kz3)); (case kz1 => walk_at "ed"); (case kz2 => decide)))
local macro_rules | `(tactic| walk_at "TB") => `(tactic| (refine' eo_ret1 (eo_ifT (Et.is (et_test ?kz1) ?kz2) ?kz3); (case kz1 => walk_at "ed"); (case kz2 => decide)))

section
variable {P : Program} {w : World} {K : PySem.W.Frag} {mg : Str → Option Value} {base : Heap}
theorem ed_optR {ρ : En} {i : Nat} {o : Option (Rt Str)} (h : ρ[i]? = some (some (optR o))) : Ed ρ (tVar i) (optR o) := ed_var h
theorem isNone_optR : ∀ o : Option (Rt Str), isNone (optR o) = o.isNone
  | none => rfl
  | some r => isNone_encR r
theorem put_parts {ρ : En} {rs : List (Rt Str)} {i : Rt Str} {k : Nat} (h0 : ρ[0]? = some (some (.tuple [.str "all", .tuple (encRs rs)]))) (h4 : ρ[4]? = some (some (encR i))) (h6 : ρ[6]? = some (some (.int (k : Int)))) (hb : rs.length ≤ 1000) (hk : k < rs.length) :
    Ed ρ (tTupF (tCons (tC (.str "all")) (tCons (tOp (rCatF K) (tOp (rCatF K) (tSl (rSlF K) (tOp (rIxT K) (tVar 0) (tC (.int 1))) tNoPart (tPart (tVar 6))) (tTupF (tCons (tVar 4) tNil))) (tSl (rSlF K) (tOp (rIxT K) (tVar 0) (tC (.int 1))) (tPart (tOp (rI0 fun i j => .int (i + j)) (tVar 6) (tC (.int 1)))) tNoPart)) tNil)))
      (encR (.all (rs.take k ++ i :: rs.drop (k + 1)))) := by
  have hl2 : (encRs rs).length = rs.length := by rw [encRs_map, List.length_map]
  have a0 : Ed ρ (tOp (rIxT K) (tVar 0) (tC (.int 1))) (.tuple (encRs rs)) := ed_ixT (ed_var h0) ed_int rfl
  have a1 : Ed ρ (tSl (rSlF K) (tOp (rIxT K) (tVar 0) (tC (.int 1))) tNoPart (tPart (tVar 6))) (.tuple ((encRs rs).take k)) := by
    have q := ed_slT (K := K) (lo := none) (hi := some (k : Int)) a0 eo_no (eo_at (ed_var h6))
    rw [cutD_pre (encRs rs) k (by omega)] at q
    exact q
  have a2 : Ed ρ (tOp (rI0 fun i j => .int (i + j)) (tVar 6) (tC (.int 1))) (.int ((k + 1 : Nat) : Int)) := by
    have q := ed_add (i := (k : Int)) (j := 1) (ed_var h6) ed_int
    rw [show (k : Int) + 1 = ((k + 1 : Nat) : Int) from by omega] at q
    exact q
  have a3 : Ed ρ (tSl (rSlF K) (tOp (rIxT K) (tVar 0) (tC (.int 1))) (tPart (tOp (rI0 fun i j => .int (i + j)) (tVar 6) (tC (.int 1)))) tNoPart) (.tuple ((encRs rs).drop (k + 1))) := by
    have q := ed_slT (K := K) (lo := some ((k + 1 : Nat) : Int)) (hi := none) a0 (eo_at a2) eo_no
    rw [cutD_post (encRs rs) (k + 1) (by omega)] at q
    exact q
  have a4 : Ed ρ (tTupF (tCons (tVar 4) tNil)) (.tuple [encR i]) := ed_tup (ea_cons (ed_var h4) ea_nil) (Nat.le_of_ble_eq_true rfl)
  have a5 := ed_catT (K := K) a1 a4 (by rw [List.length_take]; show _ + 1 ≤ _; omega)
  have a6 := ed_catT (K := K) a5 a3 (by rw [List.length_append, List.length_take, List.length_drop]; show _ + 1 + _ ≤ _; omega)
  have a7 := ed_tup (ea_cons (ed_str (i := "all")) (ea_cons a6 ea_nil)) (Nat.le_of_ble_eq_true rfl)
  have e : encR (.all (rs.take k ++ i :: rs.drop (k + 1))) = .tuple [.str "all", .tuple ((encRs rs).take k ++ [encR i] ++ (encRs rs).drop (k + 1))] := by
    rw [encR, encRs_map, encRs_map, List.map_append, List.map_cons, List.map_take, List.map_drop, List.append_assoc]
    rfl
  rw [e]
  exact a7
/-! ### behind -/
abbrev s_law_behind : Stmt := topS 37
abbrev n_law_behind : List Str := ["_law_right_here", "_law_name", "_law_amount", "_law_word", "_law_inner", "_law_left_here", "_law_at", "_law_part"]
theorem sc_law_behind : FnScope n_law_behind ["_law_right_here", "_law_name", "_law_amount"] (defScope s_law_behind) := ⟨rfl, rfl, rfl, by decide +kernel, rfl, by decide +kernel, by decide +kernel⟩
abbrev spBeh (n : Nat) : Sp := spD (fun a : Rt Str × Str × Int => [encR a.1, .str a.2.1, .int a.2.2]) (fun a => rb a.1 ∧ dep a.1 ≤ n) fun a => optR (behind a.1 a.2.1 a.2.2)
theorem ok_law_behind (D : Dfn K mg "_law_behind" s_law_behind ["_law_right_here", "_law_name", "_law_amount"]) (Z : Bi mg) : ∀ n : Nat, Cal P w K mg base "_law_behind" n (spBeh n)
  | 0 => D.vac (sp_vac fun r h => by have := dep_pos r.1; omega)
  | n + 1 => by
    have C_law_behind := ok_law_behind D Z n
    refine D.cal fun f fd F => def_ok F sc_law_behind (fun _ => rfl) fun cdv A outer s H E hr => ?_
    refine ⟨_, (pss_cons (ps_set (i := 3) sc_law_behind.nd rfl (Or.inl rfl) (pe_ix ix_tup (pv 0) pe_int (fun _ _ => rfl)))
    (pss_cons (ps_if (pt_cmpR op_eq (pv 3) pe_str (nomark _)) (pss_cons (ps_if (PW.pt (pw_or (pt_cmpR op_ne (pe_ix ix_tup (pv 0) pe_int (fun _ _ => rfl)) (pv 1) (nomark _)) (pw_or1 (pt_cmpR op_gt (pv 2) (pe_ix ix_tup (pv 0) pe_int (fun _ _ => rfl)) (nomark _))))) (pss_one (ps_ret pe_non)) pss_nil)
    (pss_one (ps_ret (pe_ifExp (pt_cmpR op_gt (pe_ix ix_tup (pv 0) pe_int (fun _ _ => rfl)) pe_int (nomark _)) (pe_tupF (pa_cons pe_str (pa_cons (pv 1) (pa_cons (pe_ix ix_tup (pv 0) pe_int (fun _ _ => rfl)) (pa_cons (pe_op op_sub (pe_ix ix_tup (pv 0) pe_int (fun _ _ => rfl)) pe_int) pa_nil))))) (pe_tupF (pa_cons pe_str pa_nil)))))) pss_nil)
    (pss_cons (ps_if (pt_cmpR op_eq (pv 3) pe_str (nomark _)) (pss_one (ps_ret pe_non)) pss_nil)
    (pss_cons (ps_if (pt_cmpR op_in_seq (pv 3) (pe_tupF (pa_cons pe_str (pa_cons pe_str pa_nil))) (by rfl)) (pss_cons (ps_set (i := 4) sc_law_behind.nd rfl (Or.inl rfl) (pe_cal C_law_behind (hr.mono (by omega)) rfl (pa_cons (pe_ix ix_tup (pv 0) pe_int (fun _ _ => rfl)) (pa_cons (pv 1) (pa_cons (pv 2) pa_nil)))))
    (pss_cons (ps_set (i := 5) sc_law_behind.nd rfl (Or.inl rfl) (pe_op op_sub (pe_ix ix_tup (pv 0) pe_int (fun _ _ => rfl)) (pe_ifExp (pt_cmpR op_eq (pv 3) pe_str (nomark _)) (pv 2) pe_int)))
    (pss_cons (ps_if (PW.pt (pw_or (pt_cmpR op_isN (pv 4) pe_non (nomark _)) (pw_or1 (pt_cmpR op_lt (pv 5) pe_int (nomark _))))) (pss_one (ps_ret pe_non)) pss_nil)
    (pss_one (ps_ret (pe_ifExp (pt_cmpR op_eq (pv 5) pe_int (nomark _)) (pe_tupF (pa_cons pe_str pa_nil)) (pe_tupF (pa_cons (pv 3) (pa_cons (pv 5) (pa_cons (pv 4) pa_nil)))))))))) pss_nil)
    (pss_cons (ps_for PassesOwn.never rfl (pi_en rfl Z.enumerate (pa_cons (pe_ix ix_tup (pv 0) pe_int (fun _ _ => rfl)) pa_nil)) (pg_tup rfl (pgs_cons (pg_name (i := 6) sc_law_behind.nd rfl (Or.inl rfl)) (pgs_cons (pg_name (i := 7) sc_law_behind.nd rfl (Or.inl rfl)) pgs_nil)))
      (pss_cons (ps_set (i := 4) sc_law_behind.nd rfl (Or.inl rfl) (pe_cal C_law_behind (hr.mono (by omega)) rfl (pa_cons (pv 7) (pa_cons (pv 1) (pa_cons (pv 2) pa_nil)))))
    (pss_one (ps_if (pt_cmpR op_notN (pv 4) pe_non (nomark _)) (pss_cons (ps_if (pt_cmpR op_eq (pv 3) pe_str (nomark _)) (pss_one (ps_ret (pv 4))) pss_nil)
    (pss_one (ps_ret (pe_tupF (pa_cons pe_str (pa_cons (pe_op op_catF (pe_op op_catF (pe_slice sl_tupF (pe_ix ix_tup (pv 0) pe_int (fun _ _ => rfl)) po_none (po_some (pv 6))) (pe_tupF (pa_cons (pv 4) pa_nil))) (pe_slice sl_tupF (pe_ix ix_tup (pv 0) pe_int (fun _ _ => rfl)) (po_some (pe_op op_add (pv 6) pe_int)) po_none)) pa_nil)))))) pss_nil))))
    (pss_one (ps_ret pe_non))))))), fun r hp => ?_⟩
    obtain ⟨r, nm, a⟩ := r
    obtain ⟨hb, hd⟩ := hp
    simp only at hb hd
    cases r with
    | none =>
      show Eo [some (.tuple [.str "none"]), some (.str nm), some (.int a), none, none, none, none, none] _ _
      walk_at "set"
      walk_at "F"
      walk_at "T"
      refine Ed.is ed_non ?_
      simp only [behind]
      rfl
    | call x m t =>
      show Eo [some (.tuple [.str "call", .str x, .int m, .int t]), some (.str nm), some (.int a), none, none, none, none, none] _ _
      walk_at "set"
      walk_at "TB"
      simp only [behind]
      by_cases h : x ≠ nm ∨ a > m
      · rw [if_pos h]
        refine eo_ret1 (eo_ifT (Et.is (et_or (a := !decide (x = nm)) (b := decide (m < a)) (et_test (ed_neS (by walk_at "ed") (by walk_at "ed"))) fun _ => et_test (ed_gt (by walk_at "ed") (by walk_at "ed"))) ?_) (eo_ret ed_non))
        by_cases h1 : x = nm
        · rw [decide_eq_true h1, decide_eq_true (h.resolve_left fun z => z h1)]
          rfl
        · rw [decide_eq_false h1]
          rfl
      · rw [if_neg h]
        have h1 : x = nm := Classical.byContradiction fun z => h (.inl z)
        have h2 : ¬ m < a := fun z => h (.inr z)
        refine eo_seq (eo_ifF (Et.is (et_or (a := !decide (x = nm)) (b := decide (m < a)) (et_test (ed_neS (by walk_at "ed") (by walk_at "ed"))) fun _ => et_test (ed_gt (by walk_at "ed") (by walk_at "ed"))) ?_) eo_next) (eo_ret ?_)
        · rw [decide_eq_true h1, decide_eq_false h2]
          rfl
        · by_cases h3 : t > 1
          · rw [if_pos h3]
            exact ed_ifT (Et.is (et_test (ed_gt (j := 1) (by walk_at "ed") (by walk_at "ed"))) (decide_eq_true h3)) (ed_tup (ea_cons (by walk_at "ed") (ea_cons (by walk_at "ed") (ea_cons (by walk_at "ed") (ea_cons (ed_sub (by walk_at "ed") ed_int) ea_nil)))) (Nat.le_of_ble_eq_true rfl))
          · rw [if_neg h3]
            exact ed_ifF (Et.is (et_test (ed_gt (j := 1) (by walk_at "ed") (by walk_at "ed"))) (decide_eq_false h3)) (ed_tup (ea_cons ed_str ea_nil) (Nat.le_of_ble_eq_true rfl))
    | within m q =>
      rw [rb] at hb
      rw [dep] at hd
      show Eo [some (.tuple [.str "within", .int m, encR q]), some (.str nm), some (.int a), none, none, none, none, none] _ _
      walk_at "set"
      walk_at "F"
      walk_at "F"
      walk_at "TB"
      refine' eo_seq (eo_set (ed_call (q, nm, a) ?k1_7 ⟨hb.2.2, (by show dep q ≤ n; omega)⟩)) ?k2_7
      case k1_7 => walk_at "ea"
      refine' eo_seq (eo_set (ed_sub (j := a) (by walk_at "ed") (ed_ifT (Et.is (et_test ?k3_7) ?k4_7) (by walk_at "ed")))) ?k5_7
      case k3_7 => walk_at "ed"
      case k4_7 => decide
      simp only [behind]
      cases hq : behind q nm a with
      | none =>
        refine eo_ret1 (eo_ifT (Et.is (et_or (a := true) (b := true) (et_test (Ed.is (ed_isN (ed_var rfl)) ?_)) fun z => nomatch z) rfl) (eo_ret ed_non))
        rfl
      | some i =>
        have hi : ∀ {ρ : En} {k : Nat}, ρ[k]? = some (some (optR (some i))) → Ed ρ (tVar k) (encR i) := fun h => ed_var h
        dsimp only
        by_cases h1 : m - a < 0
        · rw [if_pos h1]
          refine eo_ret1 (eo_ifT (Et.is (et_or (a := false) (b := decide (m - a < 0)) (et_test (Ed.is (ed_isN (ed_var rfl)) ?_)) fun z => et_test (ed_lt (ed_var rfl) ed_int)) (decide_eq_true h1)) (eo_ret ed_non))
          rw [isNone_optR]
          rfl
        · rw [if_neg h1]
          refine eo_seq (eo_ifF (Et.is (et_or (a := false) (b := decide (m - a < 0)) (et_test (Ed.is (ed_isN (ed_var rfl)) ?_)) fun z => et_test (ed_lt (ed_var rfl) ed_int)) (decide_eq_false h1)) eo_next) (eo_ret ?_)
          · rw [isNone_optR]
            rfl
          · by_cases h2 : m - a = 0
            · rw [if_pos h2]
              exact ed_ifT (Et.is (et_test (ed_eqI (ed_var rfl) ed_int)) (decide_eq_true h2)) (ed_tup (ea_cons ed_str ea_nil) (Nat.le_of_ble_eq_true rfl))
            · rw [if_neg h2]
              exact ed_ifF (Et.is (et_test (ed_eqI (ed_var rfl) ed_int)) (decide_eq_false h2)) (ed_tup (ea_cons (by walk_at "ed") (ea_cons (ed_var rfl) (ea_cons (hi rfl) ea_nil))) (Nat.le_of_ble_eq_true rfl))
    | calls m q =>
      rw [rb] at hb
      rw [dep] at hd
      show Eo [some (.tuple [.str "calls", .int m, encR q]), some (.str nm), some (.int a), none, none, none, none, none] _ _
      walk_at "set"
      walk_at "F"
      walk_at "F"
      walk_at "TB"
      refine' eo_seq (eo_set (ed_call (q, nm, a) ?k1_8 ⟨hb.2.2, (by show dep q ≤ n; omega)⟩)) ?k2_8
      case k1_8 => walk_at "ea"
      refine' eo_seq (eo_set (ed_sub (j := 1) (by walk_at "ed") (ed_ifF (Et.is (et_test ?k3_8) ?k4_8) ed_int))) ?k5_8
      case k3_8 => walk_at "ed"
      case k4_8 => decide
      simp only [behind]
      cases hq : behind q nm a with
      | none =>
        refine eo_ret1 (eo_ifT (Et.is (et_or (a := true) (b := true) (et_test (Ed.is (ed_isN (ed_var rfl)) ?_)) fun z => nomatch z) rfl) (eo_ret ed_non))
        rfl
      | some i =>
        have hi : ∀ {ρ : En} {k : Nat}, ρ[k]? = some (some (optR (some i))) → Ed ρ (tVar k) (encR i) := fun h => ed_var h
        dsimp only
        by_cases h1 : m - 1 < 0
        · rw [if_pos h1]
          refine eo_ret1 (eo_ifT (Et.is (et_or (a := false) (b := decide (m - 1 < 0)) (et_test (Ed.is (ed_isN (ed_var rfl)) ?_)) fun z => et_test (ed_lt (ed_var rfl) ed_int)) (decide_eq_true h1)) (eo_ret ed_non))
          rw [isNone_optR]
          rfl
        · rw [if_neg h1]
          refine eo_seq (eo_ifF (Et.is (et_or (a := false) (b := decide (m - 1 < 0)) (et_test (Ed.is (ed_isN (ed_var rfl)) ?_)) fun z => et_test (ed_lt (ed_var rfl) ed_int)) (decide_eq_false h1)) eo_next) (eo_ret ?_)
          · rw [isNone_optR]
            rfl
          · by_cases h2 : m - 1 = 0
            · rw [if_pos h2]
              exact ed_ifT (Et.is (et_test (ed_eqI (ed_var rfl) ed_int)) (decide_eq_true h2)) (ed_tup (ea_cons ed_str ea_nil) (Nat.le_of_ble_eq_true rfl))
            · rw [if_neg h2]
              exact ed_ifF (Et.is (et_test (ed_eqI (ed_var rfl) ed_int)) (decide_eq_false h2)) (ed_tup (ea_cons (by walk_at "ed") (ea_cons (ed_var rfl) (ea_cons (hi rfl) ea_nil))) (Nat.le_of_ble_eq_true rfl))
    | all rs =>
      rw [rb] at hb
      rw [dep] at hd
      show Eo [some (.tuple [.str "all", .tuple (encRs rs)]), some (.str nm), some (.int a), none, none, none, none, none] _ _
      walk_at "set"
      walk_at "F"
      walk_at "F"
      walk_at "F"
      simp only [behind]
      have pre : ∀ (i : Nat) (q : Rt Str), rs[i]? = some q → rb q ∧ dep q ≤ n := fun i q er => by
        have hq : q ∈ rs := List.mem_of_getElem? er
        have := deps_mem hq
        exact ⟨rbAll_mem hb.2 hq, by omega⟩
      rcases behind_find nm a rs with ⟨h1, h2, h3⟩ | ⟨k, i, r, h1, h2, h3, h4, h5⟩
      · rw [h2]
        refine' eo_seq (eo_for (ds := counted (rs.map encR)) (fun i => [some (.tuple [.str "all", .tuple (encRs rs)]), some (.str nm), some (.int a), some (.str "all"), none, none, none, none]) (ei_en (Ed.is ?k1_9 (congrArg PyData.tuple (encRs_map rs)))) (le_of ?k2_9) ?k3_9) (eo_ret ed_non)
        case k1_9 => walk_at "ed"
        case k2_9 => exact ⟨rfl, rfl, rfl, rfl, trivial⟩
        case k3_9 =>
          intro i d hd2
          obtain ⟨e, he, rfl⟩ := counted_get hd2
          rw [List.getElem?_map] at he
          cases er : rs[i]? with
          | none => rw [er] at he; cases he
          | some q =>
            rw [er] at he
            cases he
            refine ⟨_, _, eg_tup (egs_cons eg_name (egs_cons eg_name egs_nil)) rfl, ?_⟩
            refine' eo_seq (eo_set (ed_call (q, nm, a) ?k4_9 (pre i q er))) (eo_ifF (Et.is (et_test (ed_notN (ed_var rfl))) ?k5_9) (Eo.less eo_next (le_of ⟨rfl, rfl, rfl, rfl, trivial⟩)))
            case k4_9 => walk_at "ea"
            case k5_9 =>
              rw [isNone_optR, h1 q (List.mem_of_getElem? er)]
              rfl
      · rw [h4]
        refine' eo_ret1 (eo_forR (ds := counted (rs.map encR)) (fun i => [some (.tuple [.str "all", .tuple (encRs rs)]), some (.str nm), some (.int a), some (.str "all"), none, none, none, none]) k (ei_en (Ed.is ?k1_9 (congrArg PyData.tuple (encRs_map rs)))) (le_of ?k2_9) ?k6_9 ?k3_9 ?k7_9)
        case k1_9 => walk_at "ed"
        case k2_9 => exact ⟨rfl, rfl, rfl, rfl, trivial⟩
        case k6_9 =>
          have := (List.getElem?_eq_some_iff.mp h1).1
          unfold counted
          rw [List.length_map, List.length_range, List.length_map]
          exact this
        case k3_9 =>
          intro i d hi hd2
          obtain ⟨e, he, rfl⟩ := counted_get hd2
          rw [List.getElem?_map] at he
          cases er : rs[i]? with
          | none => rw [er] at he; cases he
          | some q =>
            rw [er] at he
            cases he
            refine ⟨_, _, eg_tup (egs_cons eg_name (egs_cons eg_name egs_nil)) rfl, ?_⟩
            refine' eo_seq (eo_set (ed_call (q, nm, a) ?k4_9 (pre i q er))) (eo_ifF (Et.is (et_test (ed_notN (ed_var rfl))) ?k5_9) (Eo.less eo_next (le_of ⟨rfl, rfl, rfl, rfl, trivial⟩)))
            case k4_9 => walk_at "ea"
            case k5_9 =>
              rw [isNone_optR, h2 i q hi er]
              rfl
        case k7_9 =>
          intro d hd2
          obtain ⟨e, he, rfl⟩ := counted_get hd2
          rw [List.getElem?_map, h1] at he
          cases he
          refine ⟨_, _, eg_tup (egs_cons eg_name (egs_cons eg_name egs_nil)) rfl, ?_⟩
          refine' eo_seq (eo_set (Ed.is (ed_call (r, nm, a) ?k8_9 (pre k r h1)) (show optR (behind r nm a) = encR i from by rw [h3]; rfl))) (eo_ifT (Et.is (et_test (ed_notN (ed_var rfl))) ?k9_9) ?k10_9)
          case k8_9 => walk_at "ea"
          case k9_9 =>
            rw [isNone_encR]
            rfl
          case k10_9 =>
            walk_at "F"
            exact eo_ret (put_parts rfl rfl rfl hb.1 (List.getElem?_eq_some_iff.mp h1).1)
    | one rs =>
      rw [rb] at hb
      rw [dep] at hd
      show Eo [some (.tuple [.str "one", .tuple (encRs rs)]), some (.str nm), some (.int a), none, none, none, none, none] _ _
      walk_at "set"
      walk_at "F"
      walk_at "F"
      walk_at "F"
      simp only [behind]
      have pre : ∀ (i : Nat) (q : Rt Str), rs[i]? = some q → rb q ∧ dep q ≤ n := fun i q er => by
        have hq : q ∈ rs := List.mem_of_getElem? er
        have := deps_mem hq
        exact ⟨rbAll_mem hb.2 hq, by omega⟩
      rcases behind_find nm a rs with ⟨h1, h2, h3⟩ | ⟨k, i, r, h1, h2, h3, h4, h5⟩
      · rw [h3]
        refine' eo_seq (eo_for (ds := counted (rs.map encR)) (fun i => [some (.tuple [.str "one", .tuple (encRs rs)]), some (.str nm), some (.int a), some (.str "one"), none, none, none, none]) (ei_en (Ed.is ?k1_10 (congrArg PyData.tuple (encRs_map rs)))) (le_of ?k2_10) ?k3_10) (eo_ret ed_non)
        case k1_10 => walk_at "ed"
        case k2_10 => exact ⟨rfl, rfl, rfl, rfl, trivial⟩
        case k3_10 =>
          intro i d hd2
          obtain ⟨e, he, rfl⟩ := counted_get hd2
          rw [List.getElem?_map] at he
          cases er : rs[i]? with
          | none => rw [er] at he; cases he
          | some q =>
            rw [er] at he
            cases he
            refine ⟨_, _, eg_tup (egs_cons eg_name (egs_cons eg_name egs_nil)) rfl, ?_⟩
            refine' eo_seq (eo_set (ed_call (q, nm, a) ?k4_10 (pre i q er))) (eo_ifF (Et.is (et_test (ed_notN (ed_var rfl))) ?k5_10) (Eo.less eo_next (le_of ⟨rfl, rfl, rfl, rfl, trivial⟩)))
            case k4_10 => walk_at "ea"
            case k5_10 =>
              rw [isNone_optR, h1 q (List.mem_of_getElem? er)]
              rfl
      · rw [h5]
        refine' eo_ret1 (eo_forR (ds := counted (rs.map encR)) (fun i => [some (.tuple [.str "one", .tuple (encRs rs)]), some (.str nm), some (.int a), some (.str "one"), none, none, none, none]) k (ei_en (Ed.is ?k1_10 (congrArg PyData.tuple (encRs_map rs)))) (le_of ?k2_10) ?k6_10 ?k3_10 ?k7_10)
        case k1_10 => walk_at "ed"
        case k2_10 => exact ⟨rfl, rfl, rfl, rfl, trivial⟩
        case k6_10 =>
          have := (List.getElem?_eq_some_iff.mp h1).1
          unfold counted
          rw [List.length_map, List.length_range, List.length_map]
          exact this
        case k3_10 =>
          intro i d hi hd2
          obtain ⟨e, he, rfl⟩ := counted_get hd2
          rw [List.getElem?_map] at he
          cases er : rs[i]? with
          | none => rw [er] at he; cases he
          | some q =>
            rw [er] at he
            cases he
            refine ⟨_, _, eg_tup (egs_cons eg_name (egs_cons eg_name egs_nil)) rfl, ?_⟩
            refine' eo_seq (eo_set (ed_call (q, nm, a) ?k4_10 (pre i q er))) (eo_ifF (Et.is (et_test (ed_notN (ed_var rfl))) ?k5_10) (Eo.less eo_next (le_of ⟨rfl, rfl, rfl, rfl, trivial⟩)))
            case k4_10 => walk_at "ea"
            case k5_10 =>
              rw [isNone_optR, h2 i q hi er]
              rfl
        case k7_10 =>
          intro d hd2
          obtain ⟨e, he, rfl⟩ := counted_get hd2
          rw [List.getElem?_map, h1] at he
          cases he
          refine ⟨_, _, eg_tup (egs_cons eg_name (egs_cons eg_name egs_nil)) rfl, ?_⟩
          refine' eo_seq (eo_set (Ed.is (ed_call (r, nm, a) ?k8_10 (pre k r h1)) (show optR (behind r nm a) = encR i from by rw [h3]; rfl))) (eo_ifT (Et.is (et_test (ed_notN (ed_var rfl))) ?k9_10) ?k10_10)
          case k8_10 => walk_at "ea"
          case k9_10 =>
            rw [isNone_encR]
            rfl
          case k10_10 =>
            walk_at "T"
            exact ed_var rfl
/-! ### names -/
abbrev s_law_names : Stmt := topS 39
abbrev n_law_names : List Str := ["_law_right_here", "_law_found", "_law_parts", "_law_part"]
theorem sc_law_names : FnScope n_law_names ["_law_right_here"] (defScope s_law_names) := ⟨rfl, rfl, rfl, by decide +kernel, rfl, by decide +kernel, by decide +kernel⟩
abbrev spNames (n : Nat) : Sp := spD (fun a : Rt Str => [encR a]) (fun a => (namesR a).length ≤ 1000000 ∧ dep a ≤ n) fun a => .list ((namesR a).map .str)
theorem loop_names {n : Nat} {rd pd : PD} {rs : List (Rt Str)} (hl : (namesRs rs).length ≤ 1000000) (hd : deps rs ≤ n) (hp : pd = .tuple (rs.map encR)) :
    Eo [some rd, some (.list []), some pd, none] (tFor (iTup K (tVar 2)) (gName 3) (tAsg (tOp rCat (tVar 1) (tCall (spNames n) [] E0 (tCons (tVar 3) tNil))) (gName 1))) (.go [some rd, some (.list ((namesRs rs).map .str)), some pd, none]) := by
  subst hp
  refine Eo.less (eo_for (ds := rs.map encR) (fun i => [some rd, some (.list ((namesRs (rs.take i)).map .str)), some (.tuple (rs.map encR)), none]) (ei_tup (ed_var rfl)) (le_of ⟨rfl, by rw [List.take_zero, namesRs]; rfl, rfl, trivial⟩) ?_) (le_of ⟨rfl, by rw [List.length_map, List.take_length], rfl, trivial⟩)
  intro i d hd2
  rw [List.getElem?_map] at hd2
  cases er : rs[i]? with
  | none => rw [er] at hd2; cases hd2
  | some q =>
    rw [er] at hd2
    cases hd2
    have et : rs.take (i + 1) = rs.take i ++ [q] := by rw [List.take_add_one, er]; rfl
    have ea : namesRs (rs.take (i + 1)) = namesRs (rs.take i) ++ namesR q := by rw [et, namesRs_app, namesRs, namesRs, List.append_nil]
    have el : namesRs rs = namesRs (rs.take (i + 1)) ++ namesRs (rs.drop (i + 1)) := by rw [← namesRs_app, List.take_append_drop]
    have e2 : (namesRs rs).length = (namesRs (rs.take i)).length + (namesR q).length + (namesRs (rs.drop (i + 1))).length := by rw [el, ea, List.length_append, List.length_append]
    have hdq := deps_mem (List.mem_of_getElem? er)
    refine ⟨_, _, eg_name, Eo.less (eo_set (ed_cat (ed_var rfl) (ed_call q (ea_cons (ed_var rfl) ea_nil) ⟨by omega, by omega⟩) ?_)) (le_of ⟨rfl, ?_, rfl, trivial⟩)⟩
    · rw [List.length_map, List.length_map]
      omega
    · rw [ea, List.map_append]
theorem ok_law_names (D : Dfn K mg "_law_names" s_law_names ["_law_right_here"]) (Z : Bi mg) : ∀ n : Nat, Cal P w K mg base "_law_names" n (spNames n)
  | 0 => D.vac (sp_vac fun r h => by have := dep_pos r; omega)
  | n + 1 => by
    have C_law_names := ok_law_names D Z n
    refine D.cal fun f fd F => def_ok F sc_law_names (fun _ => rfl) fun cdv A outer s H E hr => ?_
    refine ⟨_, (pss_cons (ps_if (pt_cmpR op_eq (pe_ix ix_tup (pv 0) pe_int (fun _ _ => rfl)) pe_str (nomark _)) (pss_one (ps_ret (pe_lst (pa_cons (pe_ix ix_tup (pv 0) pe_int (fun _ _ => rfl)) pa_nil)))) pss_nil)
    (pss_cons (ps_set (i := 1) sc_law_names.nd rfl (Or.inl rfl) (pe_lst pa_nil))
    (pss_cons (ps_set (i := 2) sc_law_names.nd rfl (Or.inl rfl) (pe_ifExp (pt_cmpR op_in_seq (pe_ix ix_tup (pv 0) pe_int (fun _ _ => rfl)) (pe_tupF (pa_cons pe_str (pa_cons pe_str pa_nil))) (by rfl)) (pe_ix ix_tup (pv 0) pe_int (fun _ _ => rfl)) (pe_slice sl_tupF (pv 0) (po_some pe_int) po_none)))
    (pss_cons (ps_for PassesOwn.never rfl (pi_tup (pv 2)) (pg_name (i := 3) sc_law_names.nd rfl (Or.inl rfl))
      (pss_one (ps_set (i := 1) sc_law_names.nd rfl (Or.inl rfl) (pe_op op_cat (pv 1) (pe_cal C_law_names (hr.mono (by omega)) rfl (pa_cons (pv 3) pa_nil))))))
    (pss_one (ps_ret (pv 1))))))), fun r hp => ?_⟩
    obtain ⟨hb, hd⟩ := hp
    cases r with
    | none =>
      show Eo [some (.tuple [.str "none"]), none, none, none] _ _
      walk_at "F"
      walk_at "set"
      refine' eo_seq (eo_set (ed_ifF (Et.is (et_test (ed_in2 ?k1_14)) ?k2_14) (Ed.is (ed_slT (lo := some ((2 : Nat) : Int)) (hi := none) (ed_var rfl) (eo_at ed_int) eo_no) rfl))) ?k3_14
      case k1_14 => walk_at "ed"
      case k2_14 => decide
      refine eo_seq (loop_names (rs := []) (by decide) (Nat.zero_le _) rfl) (eo_ret (Ed.is (ed_var rfl) ?_))
      simp only [namesR, namesRs]
    | call nm m t =>
      show Eo [some (.tuple [.str "call", .str nm, .int m, .int t]), none, none, none] _ _
      walk_at "T"
      refine Ed.is (ed_lst (ea_cons (ed_ixT (ds := [.str "call", .str nm, .int m, .int t]) (ed_var rfl) ed_int rfl) ea_nil) (Nat.le_of_ble_eq_true rfl)) ?_
      simp only [namesR]
      rfl
    | within m q =>
      rw [dep] at hd
      rw [namesR] at hb
      show Eo [some (.tuple [.str "within", .int m, encR q]), none, none, none] _ _
      walk_at "F"
      walk_at "set"
      refine' eo_seq (eo_set (ed_ifF (Et.is (et_test (ed_in2 ?k1_16)) ?k2_16) (Ed.is (ed_slT (lo := some ((2 : Nat) : Int)) (hi := none) (ed_var rfl) (eo_at ed_int) eo_no) rfl))) ?k3_16
      case k1_16 => walk_at "ed"
      case k2_16 => decide
      refine eo_seq (loop_names (rs := [q]) (by simpa [namesRs] using hb) (by simp only [deps]; omega) rfl) (eo_ret (Ed.is (ed_var rfl) ?_))
      simp only [namesR, namesRs, List.append_nil]
    | calls m q =>
      rw [dep] at hd
      rw [namesR] at hb
      show Eo [some (.tuple [.str "calls", .int m, encR q]), none, none, none] _ _
      walk_at "F"
      walk_at "set"
      refine' eo_seq (eo_set (ed_ifF (Et.is (et_test (ed_in2 ?k1_17)) ?k2_17) (Ed.is (ed_slT (lo := some ((2 : Nat) : Int)) (hi := none) (ed_var rfl) (eo_at ed_int) eo_no) rfl))) ?k3_17
      case k1_17 => walk_at "ed"
      case k2_17 => decide
      refine eo_seq (loop_names (rs := [q]) (by simpa [namesRs] using hb) (by simp only [deps]; omega) rfl) (eo_ret (Ed.is (ed_var rfl) ?_))
      simp only [namesR, namesRs, List.append_nil]
    | all rs =>
      rw [dep] at hd
      rw [namesR] at hb
      show Eo [some (.tuple [.str "all", .tuple (encRs rs)]), none, none, none] _ _
      walk_at "F"
      walk_at "set"
      refine' eo_seq (eo_set (ed_ifT (Et.is (et_test (ed_in2 ?k1_18)) ?k2_18) (Ed.is (ed_ixT (d := .tuple (encRs rs)) (ed_var rfl) ed_int rfl) rfl))) ?k3_18
      case k1_18 => walk_at "ed"
      case k2_18 => decide
      refine eo_seq (loop_names (rs := rs) hb (by omega) (congrArg PyData.tuple (encRs_map rs))) (eo_ret (Ed.is (ed_var rfl) ?_))
      simp only [namesR]
    | one rs =>
      rw [dep] at hd
      rw [namesR] at hb
      show Eo [some (.tuple [.str "one", .tuple (encRs rs)]), none, none, none] _ _
      walk_at "F"
      walk_at "set"
      refine' eo_seq (eo_set (ed_ifT (Et.is (et_test (ed_in2 ?k1_19)) ?k2_19) (Ed.is (ed_ixT (d := .tuple (encRs rs)) (ed_var rfl) ed_int rfl) rfl))) ?k3_19
      case k1_19 => walk_at "ed"
      case k2_19 => decide
      refine eo_seq (loop_names (rs := rs) hb (by omega) (congrArg PyData.tuple (encRs_map rs))) (eo_ret (Ed.is (ed_var rfl) ?_))
      simp only [namesR]
end
end K27
end
section
set_option Elab.async false
set_option linter.all false
set_option maxRecDepth 100000
set_option maxHeartbeats 1000000
namespace K27
open PySem PySem.Spec PyProof.Rows L2

local macro_rules | `(tactic| walk_at "ed") => `(tactic| first
  | exact ed_var rfl | exact ed_int | exact ed_str | exact ed_non | exact ed_bl
  | (apply ed_ixT <;> first | rfl | walk_at "ed")
  | (apply ed_add <;> walk_at "ed")
  | (apply ed_sub <;> walk_at "ed")
  | (apply ed_min2 <;> walk_at "ed")
  | (apply ed_max2 <;> walk_at "ed")
  | (apply ed_eqS <;> walk_at "ed")
  | (apply ed_neS <;> walk_at "ed")
  | (apply ed_isN <;> walk_at "ed")
  | (apply ed_notN <;> walk_at "ed")
  | (apply ed_lt <;> walk_at "ed")
  | (apply ed_le <;> walk_at "ed")
  | (apply ed_gt <;> walk_at "ed")
  | (apply ed_ge <;> walk_at "ed")
  | (apply ed_mul <;> first | walk_at "ed" | skip)
  | (apply ed_in2 <;> walk_at "ed")
  | (apply ed_tup <;> first | (show EdA _ _ _; walk_at "ea") | (simp only [List.length_cons, List.length_nil]; decide) | skip)
  | (apply ed_lst <;> first | (show EdA _ _ _; walk_at "ea") | (simp only [List.length_cons, List.length_nil]; decide) | skip)
  | skip)
local macro_rules | `(tactic| walk_at "ea") => `(tactic| first
  | exact ea_nil
  | (apply ea_cons <;> first | (show EdA _ _ _; walk_at "ea") | walk_at "ed"))
local macro_rules | `(tactic| walk_at "set") => `(tactic| (refine' eo_seq (eo_set ?kz1) ?kz2; (case kz1 => walk_at "ed")))
local macro_rules | `(tactic| walk_at "et") => `(tactic| first
  | (refine' et_test ?kz1; (case kz1 => walk_at "ed"))
  | (refine' et_B ?kz1; (case kz1 => walk_at "ed"))
  | skip)
local macro_rules | `(tactic| walk_at "F") => `(tactic| (refine' eo_seq (eo_ifF (Et.is (et_test ?kz1) ?kz2) eo_next) ?kz3; (case kz1 => walk_at "ed"); (case kz2 => decide)))
local macro_rules | `(tactic| walk_at "T") => `(tactic| (refine' eo_ret1 (eo_ifT (Et.is (et_test ?kz1) ?kz2) (eo_ret ?kz3)); (case kz1 => walk_at "ed"); (case kz2 => decide)))
local macro_rules | `(tactic| walk_at "TB") => `(tactic| (refine' eo_ret1 (eo_ifT (Et.is (et_test ?kz1) ?kz2) ?kz3); (case kz1 => walk_at "ed"); (case kz2 => decide)))

theorem kb_ii : kitB "int" "int" = some true := by decide +kernel
theorem kb_ib : kitB "int" "bool" = some false := by decide +kernel
theorem kb_tt : kitB "tuple" "tuple" = some true := by decide +kernel
theorem kb_ss : kitB "str" "str" = some true := by decide +kernel
def tyN : PD → String
  | .none => "NoneType"
  | .bool _ => "bool"
  | .int _ => "int"
  | .str _ => "str"
  | .list _ => "list"
  | .tuple _ => "tuple"
  | _ => "dict"
section
variable {ρ : En} {K : PySem.W.Frag} {ta tb te : TE}
theorem Dv.tyX {H : Hp} {v : V} {d : PD} (h : Dv H v d) : TyX K H v (.type (tyN d)) := by
  cases h with
  | non => exact .base .non
  | bl b => exact .base (.bl b)
  | int i => exact .base (.int i)
  | str x => exact .base (.str x)
  | lst h a => exact .base (.lst h)
  | tup h a =>
    obtain ⟨o, h, _⟩ := h
    exact .fTuple h
  | dct h a => exact .base (.dK h)
theorem ed_isi {d : PD} {T : String} {b : Bool} (h : Ed ρ ta d) (e : kitB (tyN d) T = some b) : Ed ρ (tCB (rIsi K) (tCons ta (tCons (tC (.ty T)) tNil))) (.bool b) := fun σ H Q s q => h σ H _ s fun v H1 e1 h1 =>
  ⟨v, .ty T, .type (tyN d), .type T, b, rfl, .ty T, h1.tyX, kit_ty e, q _ H1 e1 (.bl b)⟩
theorem def_okN {P : Program} {w : World} {mg : Str → Option Value} {base : Heap} {α : Type} {x qual : Str} {st : Stmt} {f : Addr} {fd : FuncData} {N ps : List Str} {k : Nat} {enc : α → List PD} {pre : α → Prop} (F : Fun K x qual st f fd) (S : FnScope N ps (defScope st)) (hl : ∀ a, (enc a).length = ps.length)
    (hb : ∀ (cdv : Value) (A : Around) (outer : List PySem.Env) (s : Shared) (H : Hp) (E : XK), Room k (A.deeper (envOfC qual (defScope st) s.heap.objs.size f cdv)) →
      ∃ t, PSs (cxOf CX0 P w K mg base N qual (defScope st) f cdv A outer s H E).nox (defBody st) t ∧ ∀ a, pre a → ∃ ρ', Eo (startE N (enc a)) t (.go ρ')) : FnOk P w K mg base CX0 (k + 1) f fd ps (spD enc pre fun _ => .none) := by
  refine F.ok S (fun vs H Q E h => ?_) (fun cdv A outer s H vs Q E hr h => ?_)
  · obtain ⟨a, h1, _⟩ := h
    rw [h1.length, hl]
  · obtain ⟨a, h1, h2, h3⟩ := h
    obtain ⟨t, h4, h5⟩ := hb cdv A outer s H E hr
    obtain ⟨ρ', h5⟩ := h5 a h2
    exact ⟨t, h4, h5 _ _ H (start_sg h1) fun σ' H' e hv => h3 _ H' e .non⟩
end
section
variable {P : Program} {w : World} {K : PySem.W.Frag} {mg : Str → Option Value} {base : Heap}
/-! ### whole numbers, lots, piles -/
abbrev spFrom : Sp := spD (fun a : Int × Int => [.int a.1, .int a.2]) (fun _ => True) fun a => .bool (decide (a.2 ≤ a.1))
abbrev s_law_whole_from : Stmt := topS 38
abbrev n_law_whole_from : List Str := ["_law_thing", "_law_least"]
theorem sc_law_whole_from : FnScope n_law_whole_from ["_law_thing", "_law_least"] (defScope s_law_whole_from) := ⟨rfl, rfl, rfl, by decide +kernel, rfl, by decide +kernel, by decide +kernel⟩
theorem ok_law_whole_from (D : Dfn K mg "_law_whole_from" s_law_whole_from ["_law_thing", "_law_least"]) (Z : Bi mg) : Cal P w K mg base "_law_whole_from" 1 spFrom := by
  refine D.cal fun f fd F => def_ok F sc_law_whole_from (fun _ => rfl) fun cdv A outer s H E hr => ?_
  refine ⟨_, (pss_one (ps_ret (pe_and (pe_callB call_isi rfl Z.isinstance bt_isinstance (pa_cons (pv 0) (pa_cons (pe_bltn (v := .ty "int") rfl Z.int bt_int rfl) pa_nil))) (pe_and (pe_not (pe_callB call_isi rfl Z.isinstance bt_isinstance (pa_cons (pv 0) (pa_cons (pe_bltn (v := .ty "bool") rfl Z.bool bt_bool rfl) pa_nil)))) (pe_one (pe_cmpR op_ge (pv 0) (pv 1) (nomark _))))))), fun p hp => ?_⟩
  show Eo [some (.int p.1), some (.int p.2)] _ _
  refine eo_ret (Ed.is (ed_andV (a := true) (ed_isi (ed_var rfl) kb_ii) fun _ => ed_andV (a := true) (ed_notV (a := false) (ed_isi (ed_var rfl) kb_ib)) fun _ => ed_ge (ed_var rfl) (ed_var rfl)) ?_)
  rw [Bool.true_and, Bool.true_and]
abbrev s_is_from : Stmt := topS 5
abbrev n_is_from : List Str := ["thing", "least"]
theorem sc_is_from : FnScope n_is_from ["thing", "least"] (defScope s_is_from) := ⟨rfl, rfl, rfl, by decide +kernel, rfl, by decide +kernel, by decide +kernel⟩
theorem okis_from (D : Dfn K mg "is_from" s_is_from ["thing", "least"]) (Z : Bi mg) : Cal P w K mg base "is_from" 1 spFrom := by
  refine D.cal fun f fd F => def_ok F sc_is_from (fun _ => rfl) fun cdv A outer s H E hr => ?_
  refine ⟨_, (pss_one (ps_ret (pe_and (pe_callB call_isi rfl Z.isinstance bt_isinstance (pa_cons (pv 0) (pa_cons (pe_bltn (v := .ty "int") rfl Z.int bt_int rfl) pa_nil))) (pe_and (pe_not (pe_callB call_isi rfl Z.isinstance bt_isinstance (pa_cons (pv 0) (pa_cons (pe_bltn (v := .ty "bool") rfl Z.bool bt_bool rfl) pa_nil)))) (pe_one (pe_cmpR op_ge (pv 0) (pv 1) (nomark _))))))), fun p hp => ?_⟩
  show Eo [some (.int p.1), some (.int p.2)] _ _
  refine eo_ret (Ed.is (ed_andV (a := true) (ed_isi (ed_var rfl) kb_ii) fun _ => ed_andV (a := true) (ed_notV (a := false) (ed_isi (ed_var rfl) kb_ib)) fun _ => ed_ge (ed_var rfl) (ed_var rfl)) ?_)
  rw [Bool.true_and, Bool.true_and]
abbrev spLot : Sp := spD (fun a : Int × Int => [encL a]) (fun _ => True) fun a => .bool (decide (1 ≤ a.1) && decide (1 ≤ a.2))
abbrev s_is_lot : Stmt := topS 6
abbrev n_is_lot : List Str := ["thing"]
theorem sc_is_lot : FnScope n_is_lot ["thing"] (defScope s_is_lot) := ⟨rfl, rfl, rfl, by decide +kernel, rfl, by decide +kernel, by decide +kernel⟩
theorem okis_lot (D : Dfn K mg "is_lot" s_is_lot ["thing"]) (Z : Bi mg) (Cis_from : Cal P w K mg base "is_from" 1 spFrom) : Cal P w K mg base "is_lot" 2 spLot := by
  refine D.cal fun f fd F => def_ok F sc_is_lot (fun _ => rfl) fun cdv A outer s H E hr => ?_
  refine ⟨_, (pss_one (ps_ret (pe_and (pe_callB call_isi rfl Z.isinstance bt_isinstance (pa_cons (pv 0) (pa_cons (pe_bltn (v := .ty "tuple") rfl Z.tuple bt_tuple rfl) pa_nil))) (pe_and (pe_cmpR op_eq (pe_callB call_len_seq rfl Z.len bt_len (pa_cons (pv 0) pa_nil)) pe_int (nomark _)) (pe_and (pe_cal Cis_from (hr.mono (by omega)) rfl (pa_cons (pe_ix ix_tup (pv 0) pe_int (fun _ _ => rfl)) (pa_cons pe_int pa_nil))) (pe_one (pe_cal Cis_from (hr.mono (by omega)) rfl (pa_cons (pe_ix ix_tup (pv 0) pe_int (fun _ _ => rfl)) (pa_cons pe_int pa_nil))))))))), fun p hp => ?_⟩
  show Eo [some (.tuple [.int p.1, .int p.2])] _ _
  refine eo_ret (Ed.is (ed_andV (a := true) (ed_isi (ed_var rfl) kb_tt) fun _ => ed_andV (a := true) (Ed.is (ed_eqI (ed_lenT (ed_var rfl)) ed_int) rfl) fun _ =>
    ed_andV (ed_call (p.1, 1) (ea_cons (ed_ixT (ed_var rfl) ed_int rfl) (ea_cons ed_int ea_nil)) trivial) fun _ => ed_call (p.2, 1) (ea_cons (ed_ixT (ed_var rfl) ed_int rfl) (ea_cons ed_int ea_nil)) trivial) ?_)
  rw [Bool.true_and, Bool.true_and]
/-- a pile: worths grow -/
def Grow (p : Pile) : Prop := p.Pairwise fun x y => x.1 < y.1
abbrev spPile : Sp := spD (fun a : Pile => [encP a]) (fun a => PB a ∧ Grow a) fun _ => .bool true
theorem zip_tail : ∀ p : Pile, ∃ ps : List ((Int × Int) × (Int × Int)), List.zipWith (fun d e => PyData.tuple [d, e]) (p.map encL) ((p.map encL).drop 1) = ps.map (fun x => .tuple [encL x.1, encL x.2]) ∧ ps.length ≤ p.length ∧ ∀ x ∈ ps, ∃ (i : Nat), p[i]? = some x.1 ∧ p[i + 1]? = some x.2
  | [] => ⟨[], rfl, Nat.le_refl _, fun x h => (nomatch h)⟩
  | [a] => ⟨[], rfl, Nat.zero_le _, fun x h => (nomatch h)⟩
  | a :: b :: p => by
    obtain ⟨ps, h1, h2, h3⟩ := zip_tail (b :: p)
    refine ⟨(a, b) :: ps, ?_, Nat.succ_le_succ h2, fun x hx => ?_⟩
    · show PyData.tuple [encL a, encL b] :: List.zipWith _ ((b :: p).map encL) (((b :: p).map encL).drop 1) = _
      rw [h1]
      rfl
    · rcases List.mem_cons.mp hx with e | hx
      · rw [e]
        exact ⟨0, rfl, rfl⟩
      · obtain ⟨i, g1, g2⟩ := h3 x hx
        exact ⟨i + 1, by simpa using g1, by simpa using g2⟩
abbrev s_is_pile : Stmt := topS 7
abbrev n_is_pile : List Str := ["thing", "lot", "one", "other"]
theorem sc_is_pile : FnScope n_is_pile ["thing"] (defScope s_is_pile) := ⟨rfl, rfl, rfl, by decide +kernel, rfl, by decide +kernel, by decide +kernel⟩
theorem okis_pile (D : Dfn K mg "is_pile" s_is_pile ["thing"]) (Z : Bi mg) (Cis_lot : Cal P w K mg base "is_lot" 2 spLot) : Cal P w K mg base "is_pile" 3 spPile := by
  refine D.cal fun f fd F => def_ok F sc_is_pile (fun _ => rfl) fun cdv A outer s H E hr => ?_
  refine ⟨_, (pss_cons (ps_if (PW.pt (pw_or (pt_not (pt_val (pe_callB call_isi rfl Z.isinstance bt_isinstance (pa_cons (pv 0) (pa_cons (pe_bltn (v := .ty "tuple") rfl Z.tuple bt_tuple rfl) pa_nil))))) (pw_or1 (pt_not (pt_val (pe_callB (cr_all rfl) rfl Z.all bt_all (pa_cons (pe_lc (own := [("lot", 1)]) (g := (gName 1)) (tt := tYes) rfl sc_is_pile.nd (pi_tup (pv 0)) (blkOk_by (own := [("lot", 1)]) (N := n_is_pile) (sc := defScope s_is_pile) (by decide +kernel)) (fun _ _ _ _ _ => (pg_name (i := 1) sc_is_pile.nd rfl (Or.inl rfl))) (fun _ _ _ _ _ => pts_nil) (fun _ _ _ _ _ => (pe_cal Cis_lot (hr.mono (by omega)) rfl (pa_cons (pv 1) pa_nil)))) pa_nil))))))) (pss_one (ps_ret pe_bl)) pss_nil)
    (pss_one (ps_ret (pe_callB (cr_all rfl) rfl Z.all bt_all (pa_cons (pe_lc (own := [("one", 2), ("other", 3)]) (g := (gTup K 2 (gCons (gName 2) (gCons (gName 3) gNil)))) (tt := tYes) rfl sc_is_pile.nd (pi_zz rfl Z.zip (pa_cons (pv 0) (pa_cons (pe_slice sl_tupF (pv 0) (po_some pe_int) po_none) pa_nil))) (blkOk_by (own := [("one", 2), ("other", 3)]) (N := n_is_pile) (sc := defScope s_is_pile) (by decide +kernel)) (fun _ _ _ _ _ => (pg_tup rfl (pgs_cons (pg_name (i := 2) sc_is_pile.nd rfl (Or.inl rfl)) (pgs_cons (pg_name (i := 3) sc_is_pile.nd rfl (Or.inl rfl)) pgs_nil)))) (fun _ _ _ _ _ => pts_nil) (fun _ _ _ _ _ => (pe_cmpR op_lt (pe_ix (show IxR _ (rIxT K) from ix_tup) (pv 2) pe_int (fun _ _ => rfl)) (pe_ix (show IxR _ (rIxT K) from ix_tup) (pv 3) pe_int (fun _ _ => rfl)) (nomark _)))) pa_nil))))), fun p hp => ?_⟩
  obtain ⟨hb, hg⟩ := hp
  have hlen := hb.len
  show Eo [some (encP p), none, none, none] _ _
  refine' eo_seq (eo_ifF (Et.is (et_or (a := false) (b := false) (et_not (a := true) (et_test (ed_isi (ed_var rfl) kb_tt))) fun _ => et_not (a := true) (et_test (Ed.is (ed_all (bs := p.map fun _ => true) (ed_lcm (l := p) (enc := encL) (f := fun x => .bool true) (ei_tup (ed_var rfl)) ?k1_13 ?k2_13) ?k3_13) ?k4_13))) rfl) eo_next) ?k5_13
  case k1_13 =>
    intro x hx
    refine ⟨_, _, eg_name, by decide, rfl, Ed.is (ed_call x (ea_cons (ed_var rfl) ea_nil) trivial) ?_⟩
    have := hb.at_ x hx
    rw [decide_eq_true this.1, decide_eq_true this.2.2.1]
    rfl
  case k2_13 => omega
  case k3_13 =>
    rw [List.map_map]
    rfl
  case k4_13 =>
    congr 1
    rw [List.all_map]
    exact List.all_eq_true.mpr fun _ _ => rfl
  obtain ⟨ps, h1, h2, h3⟩ := zip_tail p
  refine' eo_ret (Ed.is (ed_all (bs := ps.map fun _ => true) (ed_lcm (l := ps) (enc := fun x => .tuple [encL x.1, encL x.2]) (f := fun x => .bool true) (Ei.is (ei_zzT (ed_var rfl) (Ed.is (ed_slT (lo := some ((1 : Nat) : Int)) (hi := none) (ed_var rfl) (eo_at ed_int) eo_no) ?k6_13)) h1) ?k7_13 ?k8_13) ?k9_13) ?k10_13)
  case k6_13 =>
    congr 1
    by_cases z : 1 ≤ p.length
    · exact cutD_post _ 1 (by rw [List.length_map]; exact z)
    · have : p = [] := List.eq_nil_of_length_eq_zero (by omega)
      subst this
      rfl
  case k7_13 =>
    intro x hx
    obtain ⟨i, g1, g2⟩ := h3 x hx
    refine ⟨_, _, eg_tup (egs_cons eg_name (egs_cons eg_name egs_nil)) rfl, by decide, rfl, Ed.is (ed_lt (ed_ixT (ed_var rfl) ed_int rfl) (ed_ixT (ed_var rfl) ed_int rfl)) ?_⟩
    obtain ⟨l1, e1⟩ := List.getElem?_eq_some_iff.mp g1
    obtain ⟨l2, e2⟩ := List.getElem?_eq_some_iff.mp g2
    have q := List.pairwise_iff_getElem.mp hg i (i + 1) l1 l2 (Nat.lt_succ_self _)
    rw [e1, e2] at q
    rw [decide_eq_true q]
  case k8_13 => omega
  case k9_13 =>
    rw [List.map_map]
    rfl
  case k10_13 =>
    congr 1
    rw [List.all_map]
    exact List.all_eq_true.mpr fun _ _ => rfl
abbrev spLook : Sp := spD (fun a : Pile => [encP a]) (fun a => PB a ∧ Grow a) fun _ => .none
abbrev s_look_at_pile : Stmt := topS 8
abbrev n_look_at_pile : List Str := ["thing"]
theorem sc_look_at_pile : FnScope n_look_at_pile ["thing"] (defScope s_look_at_pile) := ⟨rfl, rfl, rfl, by decide +kernel, rfl, by decide +kernel, by decide +kernel⟩
theorem oklook_at_pile (D : Dfn K mg "look_at_pile" s_look_at_pile ["thing"]) (Z : Bi mg) (Cis_pile : Cal P w K mg base "is_pile" 3 spPile) : Cal P w K mg base "look_at_pile" 4 spLook := by
  refine D.cal fun f fd F => def_okN F sc_look_at_pile (fun _ => rfl) fun cdv A outer s H E hr => ?_
  refine ⟨_, (pss_one (ps_if (pt_not (pt_val (pe_cal Cis_pile (hr.mono (by omega)) rfl (pa_cons (pv 0) pa_nil)))) (pss_one ps_never) pss_nil)), fun p hp => ⟨[some (encP p)], ?_⟩⟩
  show Eo [some (encP p)] _ _
  exact eo_ifF (Et.is (et_not (a := true) (et_test (ed_call p (ea_cons (ed_var rfl) ea_nil) hp))) rfl) eo_next
abbrev s_sum_of : Stmt := topS 9
abbrev n_sum_of : List Str := ["pile", "worth", "many"]
theorem sc_sum_of : FnScope n_sum_of ["pile"] (defScope s_sum_of) := ⟨rfl, rfl, rfl, by decide +kernel, rfl, by decide +kernel, by decide +kernel⟩
theorem oksum_of (D : Dfn K mg "sum_of" s_sum_of ["pile"]) (Z : Bi mg) : Cal P w K mg base "sum_of" 1 spSum := by
  refine D.cal fun f fd F => def_ok F sc_sum_of (fun _ => rfl) fun cdv A outer s H E hr => ?_
  refine ⟨_, (pss_one (ps_ret (pe_callB (cr_sum rfl) rfl Z.sum bt_sum (pa_cons (pe_lc (own := [("worth", 1), ("many", 2)]) (g := (gTup K 2 (gCons (gName 1) (gCons (gName 2) gNil)))) (tt := tYes) rfl sc_sum_of.nd (pi_tup (pv 0)) (blkOk_by (own := [("worth", 1), ("many", 2)]) (N := n_sum_of) (sc := defScope s_sum_of) (by decide +kernel)) (fun _ _ _ _ _ => (pg_tup rfl (pgs_cons (pg_name (i := 1) sc_sum_of.nd rfl (Or.inl rfl)) (pgs_cons (pg_name (i := 2) sc_sum_of.nd rfl (Or.inl rfl)) pgs_nil)))) (fun _ _ _ _ _ => pts_nil) (fun _ _ _ _ _ => (pe_op op_mul (pv 1) (pv 2)))) pa_nil)))), fun p hp => ?_⟩
  refine Eo.is (eo_ret (ed_sum (ns := p.map fun x => x.1 * x.2) (ed_lcm (l := p) (enc := encL) (f := fun x => .int (x.1 * x.2)) (ei_tup (ed_var rfl)) ?_ ?_) ?_)) ?_
  · intro x hx
    refine ⟨_, _, eg_tup (egs_cons eg_name (egs_cons eg_name egs_nil)) rfl, by decide, rfl, ?_⟩
    walk_at "ed"
    have := hp.at_ x hx
    exact .inl ⟨by omega, by omega⟩
  · have := hp.len
    omega
  · rw [List.map_map]; rfl
  · rw [sumOf_eq]
abbrev s_less_of : Stmt := topS 10
abbrev n_less_of : List Str := ["pile", "worth", "one", "many"]
theorem sc_less_of : FnScope n_less_of ["pile", "worth"] (defScope s_less_of) := ⟨rfl, rfl, rfl, by decide +kernel, rfl, by decide +kernel, by decide +kernel⟩
theorem okless_of (D : Dfn K mg "less_of" s_less_of ["pile", "worth"]) (Z : Bi mg) : Cal P w K mg base "less_of" 1 spUnder := by
  refine D.cal fun f fd F => def_ok F sc_less_of (fun _ => rfl) fun cdv A outer s H E hr => ?_
  refine ⟨_, (pss_one (ps_ret (pe_callB (cr_sum rfl) rfl Z.sum bt_sum (pa_cons (pe_lc (own := [("one", 2), ("many", 3)]) (g := (gTup K 2 (gCons (gName 2) (gCons (gName 3) gNil)))) (tt := _) rfl sc_less_of.nd (pi_tup (pv 0)) (blkOk_by (own := [("one", 2), ("many", 3)]) (N := n_less_of) (sc := defScope s_less_of) (by decide +kernel)) (fun _ _ _ _ _ => (pg_tup rfl (pgs_cons (pg_name (i := 2) sc_less_of.nd rfl (Or.inl rfl)) (pgs_cons (pg_name (i := 3) sc_less_of.nd rfl (Or.inl rfl)) pgs_nil)))) (fun _ _ _ _ _ => (pts_one (pt_cmpR op_lt (pv 2) (pv 1) (nomark _)))) (fun _ _ _ _ _ => (pe_op op_mul (pv 2) (pv 3)))) pa_nil)))), fun a hp => ?_⟩
  obtain ⟨p, c⟩ := a
  refine Eo.is (eo_ret (ed_sum (ns := (p.filter fun x => decide (x.1 < c)).map fun x => x.1 * x.2) (ed_lcf (l := p) (enc := encL) (f := fun x => .int (x.1 * x.2)) (p := fun x => decide (x.1 < c)) (ei_tup (ed_var rfl)) ?_ ?_) ?_)) ?_
  · intro x hx
    refine ⟨_, _, eg_tup (egs_cons eg_name (egs_cons eg_name egs_nil)) rfl, by decide, ?_, fun _ => ⟨rfl, ?_⟩⟩
    · exact et_test (ed_lt (ed_var rfl) (ed_var rfl))
    · walk_at "ed"
      have := hp.at_ x hx
      exact .inl ⟨by omega, by omega⟩
  · have := hp.len
    show p.length < 1000000
    simp only at this
    omega
  · rw [List.map_map]; rfl
  · rw [lessOf_eq]
/-! ### the program's own numbers -/
abbrev spBound : Sp := spD (fun a : Int × Int × Int => [.int a.1, .int a.2.1, .int a.2.2]) (fun a => 2 ≤ a.1 ∧ a.1 ≤ 1000000 ∧ 2 ≤ a.2.1 ∧ a.2.1 ≤ 1000000) fun a => .int (listBound a.1 a.2.1 a.2.2)
abbrev s_list_bound : Stmt := topS 14
abbrev n_list_bound : List Str := ["below", "worth", "there"]
theorem sc_list_bound : FnScope n_list_bound ["below", "worth", "there"] (defScope s_list_bound) := ⟨rfl, rfl, rfl, by decide +kernel, rfl, by decide +kernel, by decide +kernel⟩
theorem oklist_bound (D : Dfn K mg "list_bound" s_list_bound ["below", "worth", "there"]) (Z : Bi mg) : Cal P w K mg base "list_bound" 1 spBound := by
  refine D.cal fun f fd F => def_ok F sc_list_bound (fun _ => rfl) fun cdv A outer s H E hr => ?_
  refine ⟨_, (pss_cons (ps_if (pt_cmpR op_isN (pv 0) pe_non (nomark _)) (pss_one (ps_ret (pe_ifExp (pt_cmpR op_ge (pv 2) (pe_op op_sub (pv 1) pe_int) (nomark _)) pe_non (pv 2)))) pss_nil)
    (pss_cons (ps_if (pt_cmpR op_ge (pv 1) (pv 0) (nomark _)) (pss_one (ps_ret (pv 2))) pss_nil)
    (pss_one (ps_ret (pe_op op_add (pe_op op_mul (pe_op op_sub (pv 0) pe_int) (pe_op op_fdiv (pv 2) (pe_op op_sub (pv 1) pe_int))) (pe_op op_mod (pv 2) (pe_op op_sub (pv 1) pe_int))))))), fun a hp => ?_⟩
  obtain ⟨c, v, t⟩ := a
  simp only at hp
  obtain ⟨h1, h2, h3, h4⟩ := hp
  show Eo [some (.int c), some (.int v), some (.int t)] _ (.rt (.int (listBound c v t)))
  refine eo_seq (eo_ifF (Et.is (et_test (ed_isN (ed_var rfl))) rfl) eo_next) ?_
  unfold listBound
  by_cases h : v ≥ c
  · rw [if_pos h]
    exact eo_ret1 (eo_ifT (Et.is (et_test (ed_ge (ed_var rfl) (ed_var rfl))) (decide_eq_true h)) (eo_ret (ed_var rfl)))
  · rw [if_neg h]
    refine eo_seq (eo_ifF (Et.is (et_test (ed_ge (ed_var rfl) (ed_var rfl))) (decide_eq_false h)) eo_next) (eo_ret (ed_add (ed_mul (ed_sub (ed_var rfl) ed_int) (ed_fdiv (ed_var rfl) (ed_sub (ed_var rfl) ed_int) ?_) (.inl ⟨by omega, by omega⟩)) (ed_mod (ed_var rfl) (ed_sub (ed_var rfl) ed_int) (by omega))))
    exact ⟨by omega, by omega⟩
def encQ (l : List (Int × Int)) : PD := .list (l.map encL)
abbrev spBeside : Sp := spD (fun a : Pile × Int => [encP a.1, .int a.2]) (fun a => PB a.1) fun a => encQ (leftBeside a.1 a.2)
abbrev s_left_beside : Stmt := topS 15
abbrev n_left_beside : List Str := ["pile", "amount", "worth", "many"]
theorem sc_left_beside : FnScope n_left_beside ["pile", "amount"] (defScope s_left_beside) := ⟨rfl, rfl, rfl, by decide +kernel, rfl, by decide +kernel, by decide +kernel⟩
theorem okleft_beside (D : Dfn K mg "left_beside" s_left_beside ["pile", "amount"]) (Z : Bi mg) (Cless_of : Cal P w K mg base "less_of" 1 spUnder) : Cal P w K mg base "left_beside" 2 spBeside := by
  refine D.cal fun f fd F => def_ok F sc_left_beside (fun _ => rfl) fun cdv A outer s H E hr => ?_
  refine ⟨_, (pss_one (ps_ret (pe_lc (own := [("worth", 2), ("many", 3)]) (g := (gTup K 2 (gCons (gName 2) (gCons (gName 3) gNil)))) (tt := _) rfl sc_left_beside.nd (pi_tup (pv 0)) (blkOk_by (own := [("worth", 2), ("many", 3)]) (N := n_left_beside) (sc := defScope s_left_beside) (by decide +kernel)) (fun _ _ _ _ _ => (pg_tup rfl (pgs_cons (pg_name (i := 2) sc_left_beside.nd rfl (Or.inl rfl)) (pgs_cons (pg_name (i := 3) sc_left_beside.nd rfl (Or.inl rfl)) pgs_nil)))) (fun _ _ _ _ _ => (pts_one (pt_cmpR op_gt (pv 2) pe_int (nomark _)))) (fun _ _ _ _ _ => (pe_tupF (pa_cons (pv 2) (pa_cons (pe_op op_sub (pe_cal Cless_of (hr.mono (by omega)) rfl (pa_cons (pv 0) (pa_cons (pv 2) pa_nil))) (pe_callB (call_min2 rfl) rfl Z.min bt_min (pa_cons (pv 1) (pa_cons (pe_op op_sub (pv 2) pe_int) pa_nil)))) pa_nil))))))), fun a hp => ?_⟩
  obtain ⟨p, c⟩ := a
  have hlen := hp.len
  simp only at hlen
  show Eo [some (encP p), some (.int c), none, none] _ _
  refine Eo.is (eo_ret (ed_lcf (l := p) (enc := encL) (f := fun x => .tuple [.int x.1, .int (lessOf p x.1 - min c (x.1 - 1))]) (p := fun x => decide (x.1 > 1)) (ei_tup (ed_var rfl)) ?_ (by omega))) ?_
  · intro x hx
    refine ⟨_, _, eg_tup (egs_cons eg_name (egs_cons eg_name egs_nil)) rfl, by decide, ?_, fun _ => ⟨rfl, ?_⟩⟩
    · exact et_test (ed_gt (ed_var rfl) ed_int)
    · exact ed_tup (ea_cons (ed_var rfl) (ea_cons (ed_sub (ed_call (p, x.1) (ea_cons (ed_var rfl) (ea_cons (ed_var rfl) ea_nil)) hp) (ed_min2 (ed_var rfl) (ed_sub (ed_var rfl) ed_int))) ea_nil)) (Nat.le_of_ble_eq_true rfl)
  · unfold encQ leftBeside
    rw [List.map_map]
    rfl
theorem minL_min : ∀ (l : List Int) (m k : Int), k ∈ m :: l → (∀ y, y ∈ m :: l → k ≤ y) → k = minL m l := fun l m k h1 h2 => by
  have a := minL_mem l m
  have b := h2 _ a
  obtain ⟨c, d⟩ := minL_le l m
  rcases List.mem_cons.mp h1 with e | e
  · omega
  · have := d k e
    omega
def encO : Option Int → PD
  | none => .none
  | some i => .int i
theorem test_neg {ρ : En} {l : List (Int × Int)} {o : Int} (h3 : ρ[3]? = some (some (encQ l))) (h4 : ρ[4]? = some (some (.int o))) (hl : l.length < 1000000) (hs : 6 < ρ.length := by exact Nat.le_of_ble_eq_true rfl) :
    Et ρ (tOr (tTest (tOp (rI0 fun i j => .bl (decide (i < j))) (tVar 4) (tC (.int 0)))) (tTest (tOp (rI0 fun i j => .bl (decide (j < i))) (tCB (rLenQ K) (tCons (tLc (iList K (tVar 3)) (gTup K 2 (gCons (gName 5) (gCons (gName 6) gNil))) (tTest (tOp (rI0 fun i j => .bl (decide (i < j))) (tVar 6) (tC (.int 0)))) (tVar 6) [5, 6]) tNil)) (tC (.int 0)))))
      (decide (o < 0) || decide (0 < ((l.filter fun x => decide (x.2 < 0)).length : Int))) := by
  refine et_or (et_test (ed_lt (ed_var h4) ed_int)) fun _ => et_test (ed_gt (Ed.is (ed_lenL (ed_lcf (l := l) (enc := encL) (f := fun x => .int x.2) (p := fun x => decide (x.2 < 0)) (ei_list (ed_var h3)) (fun x hx => ?_) hl)) (by rw [List.length_map])) ed_int)
  have e6 : (((wipeE ρ [5, 6]).set 5 (some (PyData.int x.1))).set 6 (some (.int x.2)))[6]? = some (some (.int x.2)) := List.getElem?_set_self (by simpa [wipeE] using hs)
  exact ⟨_, _, eg_tup (egs_cons eg_name (egs_cons eg_name egs_nil)) rfl, by decide, et_test (ed_lt (ed_var e6) ed_int), fun _ => ⟨rfl, ed_var e6⟩⟩
abbrev spLSum : Sp := spD (fun a : Pile × Int × Int => [encP a.1, .int a.2.1, .int a.2.2]) (fun a => PB a.1 ∧ 2 ≤ a.2.2 ∧ a.2.2 ≤ 1000000) fun a => encO (listSum a.1 a.2.1 a.2.2)
abbrev s_list_sum : Stmt := topS 16
abbrev n_list_sum : List Str := ["pile", "amount", "below", "left", "over", "worth", "there", "bounds", "bound"]
theorem sc_list_sum : FnScope n_list_sum ["pile", "amount", "below"] (defScope s_list_sum) := ⟨rfl, rfl, rfl, by decide +kernel, rfl, by decide +kernel, by decide +kernel⟩
theorem oklist_sum (D : Dfn K mg "list_sum" s_list_sum ["pile", "amount", "below"]) (Z : Bi mg) (Cleft_beside : Cal P w K mg base "left_beside" 2 spBeside) (Csum_of : Cal P w K mg base "sum_of" 1 spSum) (Clist_bound : Cal P w K mg base "list_bound" 1 spBound) : Cal P w K mg base "list_sum" 3 spLSum := by
  refine D.cal fun f fd F => def_ok F sc_list_sum (fun _ => rfl) fun cdv A outer s H E hr => ?_
  refine ⟨_, (pss_cons (ps_set (i := 3) sc_list_sum.nd rfl (Or.inl rfl) (pe_cal Cleft_beside (hr.mono (by omega)) rfl (pa_cons (pv 0) (pa_cons (pv 1) pa_nil))))
    (pss_cons (ps_set (i := 4) sc_list_sum.nd rfl (Or.inl rfl) (pe_op op_sub (pe_cal Csum_of (hr.mono (by omega)) rfl (pa_cons (pv 0) pa_nil)) (pv 1)))
    (pss_cons (ps_if (PW.pt (pw_or (pt_cmpR op_lt (pv 4) pe_int (nomark _)) (pw_or1 (pt_cmpR op_gt (pe_callB call_len_seq rfl Z.len bt_len (pa_cons (pe_lc (own := [("worth", 5), ("there", 6)]) (g := (gTup K 2 (gCons (gName 5) (gCons (gName 6) gNil)))) (tt := _) rfl sc_list_sum.nd (pi_list (pv 3)) (blkOk_by (own := [("worth", 5), ("there", 6)]) (N := n_list_sum) (sc := defScope s_list_sum) (by decide +kernel)) (fun _ _ _ _ _ => (pg_tup rfl (pgs_cons (pg_name (i := 5) sc_list_sum.nd rfl (Or.inl rfl)) (pgs_cons (pg_name (i := 6) sc_list_sum.nd rfl (Or.inl rfl)) pgs_nil)))) (fun _ _ _ _ _ => (pts_one (pt_cmpR op_lt (pv 6) pe_int (nomark _)))) (fun _ _ _ _ _ => (pv 6))) pa_nil)) pe_int (nomark _))))) (pss_one (ps_ret pe_non)) pss_nil)
    (pss_cons (ps_if (pt_cmpR op_eq (pv 2) pe_int (nomark _)) (pss_one (ps_ret pe_int)) pss_nil)
    (pss_cons (ps_setLc (i := 7) (own := [("worth", 5), ("there", 6)]) (g := (gTup K 2 (gCons (gName 5) (gCons (gName 6) gNil)))) (tt := tYes) rfl sc_list_sum.nd rfl rfl (sw_true rfl rfl rfl (by decide +kernel)) (pi_list (pv 3)) (blkOk_by (own := [("worth", 5), ("there", 6)]) (N := n_list_sum) (sc := defScope s_list_sum) (by decide +kernel)) (fun _ _ _ _ _ => (pg_tup rfl (pgs_cons (pg_name (i := 5) sc_list_sum.nd rfl (Or.inl rfl)) (pgs_cons (pg_name (i := 6) sc_list_sum.nd rfl (Or.inl rfl)) pgs_nil)))) (fun _ _ _ _ _ => pts_nil) (fun _ _ _ _ _ => (pe_cal Clist_bound (hr.mono (by omega)) rfl (pa_cons (pv 2) (pa_cons (pv 5) (pa_cons (pv 6) pa_nil))))))
    (pss_one (ps_ret (pe_callB (cr_min rfl) rfl Z.min bt_min (pa_cons (pe_op op_cat (pe_lst (pa_cons (pv 4) pa_nil)) (pe_lc (own := [("bound", 8)]) (g := (gName 8)) (tt := _) rfl sc_list_sum.nd (pi_list (pv 7)) (blkOk_by (own := [("bound", 8)]) (N := n_list_sum) (sc := defScope s_list_sum) (by decide +kernel)) (fun _ _ _ _ _ => (pg_name (i := 8) sc_list_sum.nd rfl (Or.inl rfl))) (fun _ _ _ _ _ => (pts_one (pt_cmpR op_notN (pv 8) pe_non (nomark _)))) (fun _ _ _ _ _ => (pv 8)))) pa_nil))))))))), fun a hp => ?_⟩
  obtain ⟨p, a, c⟩ := a
  obtain ⟨hb, h1, h2⟩ := hp
  simp only at hb h1 h2
  have hlen := hb.len
  have hl2 : (leftBeside p a).length ≤ p.length := by
    unfold leftBeside
    rw [List.length_map]
    exact List.length_filter_le ..
  show Eo [some (encP p), some (.int a), some (.int c), none, none, none, none, none, none] _ (.rt (encO (listSum p a c)))
  refine' eo_seq (eo_set (ed_call (p, a) ?k1_21 hb)) (eo_seq (eo_set (ed_sub (ed_call p ?k2_21 hb) (ed_var rfl))) ?k3_21)
  case k1_21 => exact ea_cons (ed_var rfl) (ea_cons (ed_var rfl) ea_nil)
  case k2_21 => exact ea_cons (ed_var rfl) ea_nil
  unfold listSum
  by_cases h : sumOf p - a < 0 ∨ ((leftBeside p a).filter fun x => decide (x.2 < 0)).length > 0
  · rw [if_pos h]
    refine eo_ret1 (eo_ifT (Et.is (test_neg (l := leftBeside p a) (o := sumOf p - a) rfl rfl (by omega)) ?_) (eo_ret ed_non))
    rcases h with h | h
    · rw [decide_eq_true h]
      rfl
    · rw [decide_eq_true (p := (0 : Int) < _) (by omega), Bool.or_true]
  · rw [if_neg h, if_neg (by omega)]
    refine eo_seq (eo_ifF (Et.is (test_neg (l := leftBeside p a) (o := sumOf p - a) rfl rfl (by omega)) ?_) eo_next) (eo_seq (eo_ifF (Et.is (et_test (ed_eqI (ed_var rfl) ed_int)) (decide_eq_false (by omega))) eo_next) ?_)
    · rw [decide_eq_false (fun z => h (.inl z)), decide_eq_false (p := (0 : Int) < _) (fun z => h (.inr (by omega)))]
      rfl
    refine' eo_seq (eo_set (ed_lcm (l := leftBeside p a) (enc := encL) (f := fun x => .int (listBound c x.1 x.2)) (ei_list (ed_var rfl)) ?k7_21 ?k8_21)) (eo_ret (ed_min (ns := (sumOf p - a) :: (leftBeside p a).map fun x => listBound c x.1 x.2) (ed_cat (ed_lst (ea_cons (ed_var rfl) ea_nil) (Nat.le_of_ble_eq_true rfl)) (ed_lcf (l := (leftBeside p a).map fun x => listBound c x.1 x.2) (enc := PyData.int) (f := PyData.int) (p := fun _ => true) (ei_list (Ed.is (ed_var rfl) ?k15_21)) ?k9_21 ?k10_21) ?k11_21) ?k12_21 ?k13_21 ?k14_21))
    case k7_21 =>
      intro x hx
      obtain ⟨m, hm, hw, _⟩ := mem_leftBeside hx
      have := hb.at_ _ hm
      exact ⟨_, _, eg_tup (egs_cons eg_name (egs_cons eg_name egs_nil)) rfl, by decide, rfl, ed_call (c, x.1, x.2) (ea_cons (ed_var rfl) (ea_cons (ed_var rfl) (ea_cons (ed_var rfl) ea_nil))) ⟨h1, h2, by show 2 ≤ x.1; omega, this.2.1⟩⟩
    case k8_21 => omega
    case k9_21 =>
      intro x hx
      exact ⟨_, _, eg_name, by decide, Et.is (et_test (ed_notN (ed_var rfl))) rfl, fun _ => ⟨rfl, ed_var rfl⟩⟩
    case k15_21 => rw [List.map_map]; rfl
    case k10_21 => rw [List.length_map]; omega
    case k11_21 =>
      rw [List.length_map]
      have := List.length_filter_le (fun _ => true) ((leftBeside p a).map fun x => listBound c x.1 x.2)
      rw [List.length_map] at this
      show 1 + _ ≤ _
      omega
    case k12_21 =>
      rw [List.filter_eq_self.mpr fun _ _ => rfl]
      rfl
    case k13_21 => exact Nat.succ_pos _
    case k14_21 => exact fun k q1 q2 => minL_min _ _ k q1 q2
end
end K27
end
section
set_option Elab.async false
set_option linter.all false
set_option maxRecDepth 100000
set_option maxHeartbeats 1000000
namespace K27
open PySem PySem.Spec PyProof.Rows L2

local macro_rules | `(tactic| walk_at "ed") => `(tactic| first
  | exact ed_var rfl | exact ed_int | exact ed_str | exact ed_non | exact ed_bl
  | (apply ed_ixT <;> first | rfl | walk_at "ed")
  | (apply ed_add <;> walk_at "ed")
  | (apply ed_sub <;> walk_at "ed")
  | (apply ed_min2 <;> walk_at "ed")
  | (apply ed_max2 <;> walk_at "ed")
  | (apply ed_eqS <;> walk_at "ed")
  | (apply ed_neS <;> walk_at "ed")
  | (apply ed_isN <;> walk_at "ed")
  | (apply ed_notN <;> walk_at "ed")
  | (apply ed_lt <;> walk_at "ed")
  | (apply ed_le <;> walk_at "ed")
  | (apply ed_gt <;> walk_at "ed")
  | (apply ed_ge <;> walk_at "ed")
  | (apply ed_mul <;> first | walk_at "ed" | skip)
  | (apply ed_in2 <;> walk_at "ed")
  | (apply ed_tup <;> first | (show EdA _ _ _; walk_at "ea") | (simp only [List.length_cons, List.length_nil]; decide) | skip)
  | (apply ed_lst <;> first | (show EdA _ _ _; walk_at "ea") | (simp only [List.length_cons, List.length_nil]; decide) | skip)
  | skip)
local macro_rules | `(tactic| walk_at "ea") => `(tactic| first
  | exact ea_nil
  | (apply ea_cons <;> first | (show EdA _ _ _; walk_at "ea") | walk_at "ed"))
local macro_rules | `(tactic| walk_at "set") => `(tactic| (refine' eo_seq (eo_set ?kz1) ?kz2; (case kz1 => walk_at "ed")))
local macro_rules | `(tactic| walk_at "et") => `(tactic| first
  | (refine' et_test ?kz1; (case kz1 => walk_at "ed"))
  | (refine' et_B ?kz1; (case kz1 => walk_at "ed"))
  | skip)
local macro_rules | `(tactic| walk_at "F") => `(tactic| (refine' eo_seq (eo_ifF (Et.is (et_test ?kz1) ?kz2) eo_next) ?kz3; (case kz1 => walk_at "ed"); (case kz2 => decide)))
local macro_rules | `(tactic| walk_at "T") => `(tactic| (refine' eo_ret1 (eo_ifT (Et.is (et_test ?kz1) ?kz2) (eo_ret ?kz3)); (case kz1 => walk_at "ed"); (case kz2 => decide)))
local macro_rules | `(tactic| walk_at "TB") => `(tactic| (refine' eo_ret1 (eo_ifT (Et.is (et_test ?kz1) ?kz2) ?kz3); (case kz1 => walk_at "ed"); (case kz2 => decide)))

section
variable {ρ : En} {K : PySem.W.Frag} {ta tb te : TE}
/-! divmod, unpacked -/
theorem eo_divmod {i j : Int} {a b : Nat} (h1 : Ed ρ ta (.int i)) (h2 : Ed ρ tb (.int j)) (hc : CDiv i j) :
    Eo ρ (tAsg (tCB (fun xs H Q => ∃ i j, xs = [.int i, .int j] ∧ CDiv i j ∧ ∀ p, H p = none → Q (.ref p) (upd H p (.tup [.int (i / j), .int (i % j)]))) (tCons ta (tCons tb tNil))) (gTup K 2 (gCons (gName a) (gCons (gName b) gNil))))
      (.go ((ρ.set a (some (.int (i / j)))).set b (some (.int (i % j))))) := fun D σ H s q =>
  h1 σ H _ s fun v H1 e1 g1 => h2 σ H1 _ (s.mono e1) fun w H2 e2 g2 => by
    cases g1
    cases g2
    refine ⟨i, j, rfl, hc, fun p hp => ?_⟩
    have e : Same H (upd H2 p (.tup [.int (i / j), .int (i % j)])) := (e1.trans e2).trans (Same.new hp)
    exact ⟨p, [.int (i / j), .int (i % j)], rfl, SqT.of upd_same, rfl, _, _, rfl, _, _, rfl, rfl, q _ _ e (((s.mono e).set a (.int _)).set b (.int _))⟩
/-! texts: length, signs, x in text -/
theorem ed_lenS {z : Str} (h : Ed ρ te (.str z)) (hz : z.length ≤ sizeLine) : Ed ρ (tCB (fun xs H Q => ∃ z, xs = [.str z] ∧ z.length ≤ sizeLine ∧ Q (.int z.length) H) (tCons te tNil)) (.int z.length) := ed_cb1 h fun v H Q hv q => by
  cases hv
  exact ⟨z, rfl, hz, q _ H (Same.refl H) (.int _)⟩
theorem ed_inS {i j : Str} (h1 : Ed ρ ta (.str i)) (h2 : Ed ρ tb (.str j)) : Ed ρ (tOp (fun x y H Q => ∃ i j, x = .str i ∧ y = .str j ∧ Q (.bl (!(Builtin.Str.occurrences j i 0 j.length 1).isEmpty)) H) ta tb) (.bool (!(Builtin.Str.occurrences j i 0 j.length 1).isEmpty)) := ed_op h1 h2 fun x y H Q hx hy q => by
  cases hx
  cases hy
  exact ⟨i, j, rfl, rfl, q _ H (Same.refl H) (.bl _)⟩
theorem ei_str {z : Str} (h : Ed ρ te (.str z)) : Ei ρ (iStr te) (z.cps.toList.map fun c => .str ⟨#[c]⟩) := fun σ H R s q => h σ H _ s fun v H1 e1 g1 => by
  cases g1
  have ll : (z.cps.toList.map fun c => PyData.str ⟨#[c]⟩).length = z.cps.size := by rw [List.length_map, Array.length_toList]
  refine ⟨z, rfl, q _ H1 e1 ⟨fun i H2 e hi => by rw [ll] at hi; exact hi, fun H2 e => by rw [ll]; exact Nat.le_refl _, fun i H2 x H3 e hi y => ?_⟩⟩
  obtain ⟨rfl, c, hc, rfl⟩ := y
  refine ⟨Same.refl _, .str ⟨#[c]⟩, ?_, .str _⟩
  rw [List.getElem?_map, Array.getElem?_toList, hc]
  rfl
theorem ed_chain {i j k : Int} (h1 : Ed ρ ta (.int i)) (h2 : Ed ρ tb (.int j)) (h3 : Ed ρ te (.int k)) : Ed ρ (tChain (rI0 fun i j => .bl (decide (i < j))) (rI0 fun i j => .bl (decide (i < j))) ta tb te) (.bool (decide (i < j) && decide (j < k))) := fun σ H Q s q =>
  h1 σ H _ s fun v H1 e1 g1 => h2 σ H1 _ (s.mono e1) fun w H2 e2 g2 => by
    cases g1
    cases g2
    refine ⟨i, j, rfl, rfl, decide (i < j), rfl, ?_⟩
    by_cases h : i < j
    · rw [decide_eq_true h, if_pos rfl]
      refine h3 σ H2 _ (s.mono (e1.trans e2)) fun u H3 e3 g3 => ?_
      cases g3
      exact ⟨j, k, rfl, rfl, q _ H3 ((e1.trans e2).trans e3) (by rw [decide_eq_true h, Bool.true_and]; exact .bl _)⟩
    · rw [decide_eq_false h, if_neg (by decide)]
      exact q _ H2 (e1.trans e2) (by rw [decide_eq_false h, Bool.false_and]; exact .bl false)
end
section
variable {P : Program} {w : World} {K : PySem.W.Frag} {mg : Str → Option Value} {base : Heap}
/-! ### the even list -/
abbrev spEven : Sp := spD (fun a : Int × Int => [.int a.1, .int a.2]) (fun a => 2 ≤ a.1 ∧ a.1 ≤ 1000000 ∧ 0 ≤ a.2) fun a => encQ (evens a.1 a.2)
theorem rep_if {d : PD} {c : Bool} {k : Int} (hk : (if c then 1 else 0) = k) : (List.replicate k.toNat [d]).flatten = if c then [d] else [] := by
  subst hk
  cases c <;> rfl
abbrev s_even_list : Stmt := topS 17
abbrev n_even_list : List Str := ["below", "total", "often", "rest"]
theorem sc_even_list : FnScope n_even_list ["below", "total"] (defScope s_even_list) := ⟨rfl, rfl, rfl, by decide +kernel, rfl, by decide +kernel, by decide +kernel⟩
theorem okeven_list (D : Dfn K mg "even_list" s_even_list ["below", "total"]) (Z : Bi mg) : Cal P w K mg base "even_list" 1 spEven := by
  refine D.cal fun f fd F => def_ok F sc_even_list (fun _ => rfl) fun cdv A outer s H E hr => ?_
  refine ⟨_, (pss_cons (ps_if (pt_cmpR op_isN (pv 0) pe_non (nomark _)) (pss_one (ps_ret (pe_op op_rep (pe_lst (pa_cons (pe_tupF (pa_cons (pv 1) (pa_cons pe_int pa_nil))) pa_nil)) (pe_callTy call_int1 rfl Z.int bt_int (pa_cons (pe_cmpR op_gt (pv 1) pe_int (nomark _)) pa_nil))))) pss_nil)
    (pss_cons (ps_asg (pe_callB call_divmod rfl Z.divmod bt_divmod (pa_cons (pv 1) (pa_cons (pe_op op_sub (pv 0) pe_int) pa_nil))) (pg_tup rfl (pgs_cons (pg_name (i := 2) sc_even_list.nd rfl (Or.inl rfl)) (pgs_cons (pg_name (i := 3) sc_even_list.nd rfl (Or.inl rfl)) pgs_nil))))
    (pss_one (ps_ret (pe_op op_cat (pe_op op_rep (pe_lst (pa_cons (pe_tupF (pa_cons (pe_op op_sub (pv 0) pe_int) (pa_cons (pv 2) pa_nil))) pa_nil)) (pe_callTy call_int1 rfl Z.int bt_int (pa_cons (pe_cmpR op_gt (pv 2) pe_int (nomark _)) pa_nil))) (pe_op op_rep (pe_lst (pa_cons (pe_tupF (pa_cons (pv 3) (pa_cons pe_int pa_nil))) pa_nil)) (pe_callTy call_int1 rfl Z.int bt_int (pa_cons (pe_cmpR op_gt (pv 3) pe_int (nomark _)) pa_nil)))))))), fun a hp => ?_⟩
  obtain ⟨c, t⟩ := a
  obtain ⟨h1, h2, h3⟩ := hp
  simp only at h1 h2 h3
  show Eo [some (.int c), some (.int t), none, none] _ (.rt (encQ (evens c t)))
  refine' eo_seq (eo_ifF (Et.is (et_test (ed_isN (ed_var rfl))) rfl) eo_next) (eo_seq (eo_divmod (ed_var rfl) (ed_sub (ed_var rfl) ed_int) ?k1_7) (eo_ret (Ed.is (ed_cat (ed_rep (ed_lst (ea_cons (ed_tup (ea_cons (ed_sub (ed_var rfl) ed_int) (ea_cons (ed_var rfl) ea_nil)) (Nat.le_of_ble_eq_true rfl)) ea_nil) (Nat.le_of_ble_eq_true rfl)) (ed_intB (ed_gt (ed_var rfl) ed_int)) ?k2_7 ?k3_7 ?k4_7)
    (ed_rep (ed_lst (ea_cons (ed_tup (ea_cons (ed_var rfl) (ea_cons ed_int ea_nil)) (Nat.le_of_ble_eq_true rfl)) ea_nil) (Nat.le_of_ble_eq_true rfl)) (ed_intB (ed_gt (ed_var rfl) ed_int)) ?k5_7 ?k6_7 ?k7_7) ?k8_7) ?k9_7)))
  case k1_7 => exact ⟨by omega, by omega⟩
  case k2_7 => split <;> omega
  case k3_7 => split <;> omega
  case k4_7 => show 1 * _ ≤ _; split <;> decide
  case k5_7 => split <;> omega
  case k6_7 => split <;> omega
  case k7_7 => show 1 * _ ≤ _; split <;> decide
  case k8_7 =>
    rw [rep_if rfl, rep_if rfl]
    refine Nat.le_trans (Nat.add_le_add (b := 1) (d := 1) ?_ ?_) (Nat.le_of_ble_eq_true rfl) <;> (split <;> exact Nat.le_of_ble_eq_true rfl)
  case k9_7 =>
    rw [rep_if rfl, rep_if rfl]
    unfold encQ evens
    by_cases q1 : 0 < t / (c - 1) <;> by_cases q2 : 0 < t % (c - 1)
    · rw [decide_eq_true q1, decide_eq_true q2, if_pos q1, if_pos q2]
      rfl
    · rw [decide_eq_true q1, decide_eq_false q2, if_pos q1, if_neg q2]
      rfl
    · rw [decide_eq_false q1, decide_eq_true q2, if_neg q1, if_pos q2]
      rfl
    · rw [decide_eq_false q1, decide_eq_false q2, if_neg q1, if_neg q2]
      rfl
/-! ### a told right is a right -/
def Abc (nm : Str) : Prop := nm = "a" ∨ nm = "b" ∨ nm = "c"
abbrev spTag : Sp := spD (fun a : Str => [.str a]) Abc fun _ => .bool true
theorem tag_facts {nm : Str} (h : Abc nm) : nm.length = 1 ∧ ∃ c, nm.cps.toList = [c] ∧ (!(Builtin.Str.occurrences ("abcdefghijklmnopqrstuvwxyz" : Str) ⟨#[c]⟩ 0 (Str.length "abcdefghijklmnopqrstuvwxyz") 1).isEmpty) = true := by
  rcases h with rfl | rfl | rfl
  · exact ⟨by decide +kernel, 97, by decide +kernel, by decide +kernel⟩
  · exact ⟨by decide +kernel, 98, by decide +kernel, by decide +kernel⟩
  · exact ⟨by decide +kernel, 99, by decide +kernel, by decide +kernel⟩
abbrev s_law_tag : Stmt := topS 40
abbrev n_law_tag : List Str := ["_law_thing", "_law_sign"]
theorem sc_law_tag : FnScope n_law_tag ["_law_thing"] (defScope s_law_tag) := ⟨rfl, rfl, rfl, by decide +kernel, rfl, by decide +kernel, by decide +kernel⟩
theorem ok_law_tag (D : Dfn K mg "_law_tag" s_law_tag ["_law_thing"]) (Z : Bi mg) : Cal P w K mg base "_law_tag" 1 spTag := by
  refine D.cal fun f fd F => def_ok F sc_law_tag (fun _ => rfl) fun cdv A outer s H E hr => ?_
  refine ⟨_, (pss_cons (ps_if (PW.pt (pw_or (pt_not (pt_val (pe_callB call_isi rfl Z.isinstance bt_isinstance (pa_cons (pv 0) (pa_cons (pe_bltn (v := .ty "str") rfl Z.str bt_str rfl) pa_nil))))) (pw_or1 (pt_not (pt_chain op_lt op_lt pe_int (pe_callB call_len_str rfl Z.len bt_len (pa_cons (pv 0) pa_nil)) pe_int))))) (pss_one (ps_ret pe_bl)) pss_nil)
    (pss_one (ps_ret (pe_callB (cr_all rfl) rfl Z.all bt_all (pa_cons (pe_lc (own := [("_law_sign", 1)]) (g := (gName 1)) (tt := tYes) rfl sc_law_tag.nd (pi_str (pv 0)) (blkOk_by (own := [("_law_sign", 1)]) (N := n_law_tag) (sc := defScope s_law_tag) (by decide +kernel)) (fun _ _ _ _ _ => (pg_name (i := 1) sc_law_tag.nd rfl (Or.inl rfl))) (fun _ _ _ _ _ => pts_nil) (fun _ _ _ _ _ => (pe_cmpR op_in_str (pv 1) pe_str (by rfl)))) pa_nil))))), fun nm hp => ?_⟩
  obtain ⟨h1, c, h2, h3⟩ := tag_facts hp
  show Eo [some (.str nm), none] _ _
  refine' eo_seq (eo_ifF (Et.is (et_or (a := false) (b := false) (et_not (a := true) (et_test (ed_isi (ed_var rfl) kb_ss))) fun _ => et_not (a := true) (et_test (Ed.is (ed_chain ed_int (ed_lenS (ed_var rfl) ?k1_9) ed_int) ?k2_9))) rfl) eo_next) (eo_ret (Ed.is (ed_all (bs := [true]) (ed_lcm (l := [c]) (enc := fun c => .str ⟨#[c]⟩) (f := fun _ => .bool true) (Ei.is (ei_str (ed_var rfl)) ?k3_9) ?k4_9 ?k5_9) rfl) rfl))
  case k1_9 => rw [h1]; decide
  case k2_9 => rw [h1]; rfl
  case k3_9 => rw [h2]
  case k4_9 =>
    intro x hx
    rw [List.mem_singleton.mp hx]
    exact ⟨_, _, eg_name, by decide, rfl, Ed.is (ed_inS (ed_var rfl) ed_str) (congrArg PyData.bool h3)⟩
  case k5_9 => exact Nat.le_of_ble_eq_true rfl
def CallA (r : Rt Str) : Prop := ∃ nm m t, r = .call nm m t ∧ Abc nm ∧ 1 ≤ m ∧ 1 ≤ t
abbrev spForm1 : Sp := spD (fun a : Rt Str × Int => [encR a.1, .int a.2]) (fun a => CallA a.1 ∧ 1 ≤ a.2) fun _ => .bool true
abbrev spForm2 : Sp := spD (fun a : List (Rt Str) × Int => [encR (.all a.1), .int a.2]) (fun a => (∀ r ∈ a.1, CallA r) ∧ 2 ≤ a.2 ∧ a.1.length ≤ 1000) fun _ => .bool true
abbrev s_law_formed : Stmt := topS 41
abbrev n_law_formed : List Str := ["_law_thing", "_law_deep", "_law_part"]
theorem sc_law_formed : FnScope n_law_formed ["_law_thing", "_law_deep"] (defScope s_law_formed) := ⟨rfl, rfl, rfl, by decide +kernel, rfl, by decide +kernel, by decide +kernel⟩
theorem ok_law_formed1 (D : Dfn K mg "_law_formed" s_law_formed ["_law_thing", "_law_deep"]) (Z : Bi mg) (C_law_tag : Cal P w K mg base "_law_tag" 1 spTag) (C_law_whole_from : Cal P w K mg base "_law_whole_from" 1 spFrom) : Cal P w K mg base "_law_formed" 2 spForm1 := by
  have C_law_formed : Cal P w K mg base "_law_formed" 1 (fun _ _ _ _ => False) := D.vac fun _ _ _ _ h => h
  refine D.cal fun f fd F => def_ok F sc_law_formed (fun _ => rfl) fun cdv A outer s H E hr => ?_
  refine ⟨_, (pss_cons (ps_if (PW.pt (pw_or (pt_not (pt_val (pe_callB call_isi rfl Z.isinstance bt_isinstance (pa_cons (pv 0) (pa_cons (pe_bltn (v := .ty "tuple") rfl Z.tuple bt_tuple rfl) pa_nil))))) (pw_or (pt_cmpR op_eq (pe_callB call_len_seq rfl Z.len bt_len (pa_cons (pv 0) pa_nil)) pe_int (nomark _)) (pw_or1 (pt_cmpR op_lt (pv 1) pe_int (nomark _)))))) (pss_one (ps_ret pe_bl)) pss_nil)
    (pss_cons (ps_if (PW.pt (pw_and (pt_cmpR op_eq (pe_ix ix_tup (pv 0) pe_int (fun _ _ => rfl)) pe_str (nomark _)) (pw_and (pt_cmpR op_eq (pe_callB call_len_seq rfl Z.len bt_len (pa_cons (pv 0) pa_nil)) pe_int (nomark _)) (pw_and1 (pt_val (pe_cal C_law_tag (hr.mono (by omega)) rfl (pa_cons (pe_ix ix_tup (pv 0) pe_int (fun _ _ => rfl)) pa_nil))))))) (pss_one (ps_ret (pe_and (pe_cal C_law_whole_from (hr.mono (by omega)) rfl (pa_cons (pe_ix ix_tup (pv 0) pe_int (fun _ _ => rfl)) (pa_cons pe_int pa_nil))) (pe_one (pe_cal C_law_whole_from (hr.mono (by omega)) rfl (pa_cons (pe_ix ix_tup (pv 0) pe_int (fun _ _ => rfl)) (pa_cons pe_int pa_nil))))))) pss_nil)
    (pss_cons (ps_if (PW.pt (pw_and (pt_cmpR op_in_seq (pe_ix ix_tup (pv 0) pe_int (fun _ _ => rfl)) (pe_tupF (pa_cons pe_str (pa_cons pe_str pa_nil))) (by rfl)) (pw_and1 (pt_cmpR op_eq (pe_callB call_len_seq rfl Z.len bt_len (pa_cons (pv 0) pa_nil)) pe_int (nomark _))))) (pss_one (ps_ret (pe_and (pe_cal C_law_whole_from (hr.mono (by omega)) rfl (pa_cons (pe_ix ix_tup (pv 0) pe_int (fun _ _ => rfl)) (pa_cons pe_int pa_nil))) (pe_one (pe_cal C_law_formed (hr.mono (by omega)) rfl (pa_cons (pe_ix ix_tup (pv 0) pe_int (fun _ _ => rfl)) (pa_cons (pe_op op_sub (pv 1) pe_int) pa_nil))))))) pss_nil)
    (pss_cons (ps_if (PW.pt (pw_and (pt_cmpR op_in_seq (pe_ix ix_tup (pv 0) pe_int (fun _ _ => rfl)) (pe_tupF (pa_cons pe_str (pa_cons pe_str pa_nil))) (by rfl)) (pw_and (pt_cmpR op_eq (pe_callB call_len_seq rfl Z.len bt_len (pa_cons (pv 0) pa_nil)) pe_int (nomark _)) (pw_and1 (pt_val (pe_callB call_isi rfl Z.isinstance bt_isinstance (pa_cons (pe_ix ix_tup (pv 0) pe_int (fun _ _ => rfl)) (pa_cons (pe_bltn (v := .ty "tuple") rfl Z.tuple bt_tuple rfl) pa_nil)))))))) (pss_one (ps_ret (pe_callB (cr_all rfl) rfl Z.all bt_all (pa_cons (pe_lc (own := [("_law_part", 2)]) (g := (gName 2)) (tt := tYes) rfl sc_law_formed.nd (pi_tup (pe_ix ix_tup (pv 0) pe_int (fun _ _ => rfl))) (blkOk_by (own := [("_law_part", 2)]) (N := n_law_formed) (sc := defScope s_law_formed) (by decide +kernel)) (fun _ _ _ _ _ => (pg_name (i := 2) sc_law_formed.nd rfl (Or.inl rfl))) (fun _ _ _ _ _ => pts_nil) (fun _ _ _ _ _ => (pe_cal C_law_formed (hr.mono (by omega)) rfl (pa_cons (pv 2) (pa_cons (pe_op op_sub (pv 1) pe_int) pa_nil))))) pa_nil)))) pss_nil)
    (pss_one (ps_ret (pe_cmpR op_eq (pv 0) (pe_tupF (pa_cons pe_str pa_nil)) (nomark _)))))))), fun a hp => ?_⟩
  obtain ⟨r, n⟩ := a
  obtain ⟨⟨nm, m, t, e, h1, h2, h3⟩, h4⟩ := hp
  simp only at e h4
  subst e
  show Eo [some (.tuple [.str "call", .str nm, .int m, .int t]), some (.int n), none] _ _
  refine' eo_seq (eo_ifF (Et.is (et_or (a := false) (b := false) (et_not (a := true) (et_test (ed_isi (ed_var rfl) kb_tt))) fun _ => et_or (a := false) (b := false) (et_test (Ed.is (ed_eqI (ed_lenT (ed_var rfl)) ed_int) rfl)) fun _ => et_test (Ed.is (ed_lt (ed_var rfl) ed_int) ?k1_10)) rfl) eo_next) ?k2_10
  case k1_10 => rw [decide_eq_false (by omega)]
  refine' eo_ret1 (eo_ifT (Et.is (et_and (a := true) (et_test (Ed.is (ed_eqS (ed_ixT (ed_var rfl) ed_int rfl) ed_str) ?k3_10)) fun _ => et_and (a := true) (et_test (Ed.is (ed_eqI (ed_lenT (ed_var rfl)) ed_int) rfl)) fun _ => et_test (ed_call nm (ea_cons (ed_ixT (ed_var rfl) ed_int rfl) ea_nil) h1)) rfl) (eo_ret (Ed.is (ed_andV (ed_call (m, 1) (ea_cons (ed_ixT (ed_var rfl) ed_int rfl) (ea_cons ed_int ea_nil)) trivial) fun _ => ed_call (t, 1) (ea_cons (ed_ixT (ed_var rfl) ed_int rfl) (ea_cons ed_int ea_nil)) trivial) ?k4_10)))
  case k3_10 => rfl
  case k4_10 => rw [decide_eq_true h2, decide_eq_true h3]; rfl
theorem ok_law_formed2 (D : Dfn K mg "_law_formed" s_law_formed ["_law_thing", "_law_deep"]) (Z : Bi mg) (C_law_tag : Cal P w K mg base "_law_tag" 1 spTag) (C_law_whole_from : Cal P w K mg base "_law_whole_from" 1 spFrom) (C_law_formed : Cal P w K mg base "_law_formed" 2 spForm1) : Cal P w K mg base "_law_formed" 3 spForm2 := by
  refine D.cal fun f fd F => def_ok F sc_law_formed (fun _ => rfl) fun cdv A outer s H E hr => ?_
  refine ⟨_, (pss_cons (ps_if (PW.pt (pw_or (pt_not (pt_val (pe_callB call_isi rfl Z.isinstance bt_isinstance (pa_cons (pv 0) (pa_cons (pe_bltn (v := .ty "tuple") rfl Z.tuple bt_tuple rfl) pa_nil))))) (pw_or (pt_cmpR op_eq (pe_callB call_len_seq rfl Z.len bt_len (pa_cons (pv 0) pa_nil)) pe_int (nomark _)) (pw_or1 (pt_cmpR op_lt (pv 1) pe_int (nomark _)))))) (pss_one (ps_ret pe_bl)) pss_nil)
    (pss_cons (ps_if (PW.pt (pw_and (pt_cmpR op_eq (pe_ix ix_tup (pv 0) pe_int (fun _ _ => rfl)) pe_str (nomark _)) (pw_and (pt_cmpR op_eq (pe_callB call_len_seq rfl Z.len bt_len (pa_cons (pv 0) pa_nil)) pe_int (nomark _)) (pw_and1 (pt_val (pe_cal C_law_tag (hr.mono (by omega)) rfl (pa_cons (pe_ix ix_tup (pv 0) pe_int (fun _ _ => rfl)) pa_nil))))))) (pss_one (ps_ret (pe_and (pe_cal C_law_whole_from (hr.mono (by omega)) rfl (pa_cons (pe_ix ix_tup (pv 0) pe_int (fun _ _ => rfl)) (pa_cons pe_int pa_nil))) (pe_one (pe_cal C_law_whole_from (hr.mono (by omega)) rfl (pa_cons (pe_ix ix_tup (pv 0) pe_int (fun _ _ => rfl)) (pa_cons pe_int pa_nil))))))) pss_nil)
    (pss_cons (ps_if (PW.pt (pw_and (pt_cmpR op_in_seq (pe_ix ix_tup (pv 0) pe_int (fun _ _ => rfl)) (pe_tupF (pa_cons pe_str (pa_cons pe_str pa_nil))) (by rfl)) (pw_and1 (pt_cmpR op_eq (pe_callB call_len_seq rfl Z.len bt_len (pa_cons (pv 0) pa_nil)) pe_int (nomark _))))) (pss_one (ps_ret (pe_and (pe_cal C_law_whole_from (hr.mono (by omega)) rfl (pa_cons (pe_ix ix_tup (pv 0) pe_int (fun _ _ => rfl)) (pa_cons pe_int pa_nil))) (pe_one (pe_cal C_law_formed (hr.mono (by omega)) rfl (pa_cons (pe_ix ix_tup (pv 0) pe_int (fun _ _ => rfl)) (pa_cons (pe_op op_sub (pv 1) pe_int) pa_nil))))))) pss_nil)
    (pss_cons (ps_if (PW.pt (pw_and (pt_cmpR op_in_seq (pe_ix ix_tup (pv 0) pe_int (fun _ _ => rfl)) (pe_tupF (pa_cons pe_str (pa_cons pe_str pa_nil))) (by rfl)) (pw_and (pt_cmpR op_eq (pe_callB call_len_seq rfl Z.len bt_len (pa_cons (pv 0) pa_nil)) pe_int (nomark _)) (pw_and1 (pt_val (pe_callB call_isi rfl Z.isinstance bt_isinstance (pa_cons (pe_ix ix_tup (pv 0) pe_int (fun _ _ => rfl)) (pa_cons (pe_bltn (v := .ty "tuple") rfl Z.tuple bt_tuple rfl) pa_nil)))))))) (pss_one (ps_ret (pe_callB (cr_all rfl) rfl Z.all bt_all (pa_cons (pe_lc (own := [("_law_part", 2)]) (g := (gName 2)) (tt := tYes) rfl sc_law_formed.nd (pi_tup (pe_ix ix_tup (pv 0) pe_int (fun _ _ => rfl))) (blkOk_by (own := [("_law_part", 2)]) (N := n_law_formed) (sc := defScope s_law_formed) (by decide +kernel)) (fun _ _ _ _ _ => (pg_name (i := 2) sc_law_formed.nd rfl (Or.inl rfl))) (fun _ _ _ _ _ => pts_nil) (fun _ _ _ _ _ => (pe_cal C_law_formed (hr.mono (by omega)) rfl (pa_cons (pv 2) (pa_cons (pe_op op_sub (pv 1) pe_int) pa_nil))))) pa_nil)))) pss_nil)
    (pss_one (ps_ret (pe_cmpR op_eq (pv 0) (pe_tupF (pa_cons pe_str pa_nil)) (nomark _)))))))), fun a hp => ?_⟩
  obtain ⟨rs, n⟩ := a
  obtain ⟨h1, h4, h5⟩ := hp
  simp only at h1 h4 h5
  show Eo [some (.tuple [.str "all", .tuple (encRs rs)]), some (.int n), none] _ _
  refine' eo_seq (eo_ifF (Et.is (et_or (a := false) (b := false) (et_not (a := true) (et_test (ed_isi (ed_var rfl) kb_tt))) fun _ => et_or (a := false) (b := false) (et_test (Ed.is (ed_eqI (ed_lenT (ed_var rfl)) ed_int) rfl)) fun _ => et_test (Ed.is (ed_lt (ed_var rfl) ed_int) ?k1_11)) rfl) eo_next) ?k2_11
  case k1_11 => rw [decide_eq_false (by omega)]
  refine' eo_seq (eo_ifF (Et.is (et_and (a := false) (b := true) (et_test (Ed.is (ed_eqS (ed_ixT (ed_var rfl) ed_int rfl) ed_str) ?k3_11)) fun z => nomatch z) rfl) eo_next) ?k4_11
  case k3_11 => rfl
  refine' eo_seq (eo_ifF (Et.is (et_and (a := false) (b := true) (et_test (Ed.is (ed_in2 (ed_ixT (ed_var rfl) ed_int rfl)) ?k5_11)) fun z => nomatch z) rfl) eo_next) ?k6_11
  case k5_11 => rfl
  refine' eo_ret1 (eo_ifT (Et.is (et_and (a := true) (et_test (Ed.is (ed_in2 (ed_ixT (ed_var rfl) ed_int rfl)) ?k7_11)) fun _ => et_and (a := true) (et_test (Ed.is (ed_eqI (ed_lenT (ed_var rfl)) ed_int) rfl)) fun _ => et_test (ed_isi (ed_ixT (d := .tuple (encRs rs)) (ed_var rfl) ed_int rfl) kb_tt)) rfl)
    (eo_ret (Ed.is (ed_all (bs := rs.map fun _ => true) (ed_lcm (l := rs) (enc := encR) (f := fun _ => .bool true) (Ei.is (ei_tup (ed_ixT (d := .tuple (encRs rs)) (ed_var rfl) ed_int rfl)) (encRs_map rs)) ?k8_11 ?k9_11) ?k10_11) ?k11_11)))
  case k7_11 => rfl
  case k8_11 =>
    intro r hr
    exact ⟨_, _, eg_name, by decide, rfl, ed_call (r, n - 1) (ea_cons (ed_var rfl) (ea_cons (ed_sub (ed_var rfl) ed_int) ea_nil)) ⟨h1 r hr, by show 1 ≤ n - 1; omega⟩⟩
  case k9_11 => omega
  case k10_11 =>
    rw [List.map_map]
    rfl
  case k11_11 =>
    congr 1
    rw [List.all_map]
    exact List.all_eq_true.mpr fun _ _ => rfl
theorem deps_calls : ∀ rs : List (Rt Str), (∀ r ∈ rs, CallA r) → deps rs ≤ 1
  | [], _ => by rw [deps]; exact Nat.zero_le _
  | r :: rs, h => by
    obtain ⟨nm, m, t, e, _⟩ := h r (List.mem_cons_self ..)
    have := deps_calls rs fun q hq => h q (List.mem_cons_of_mem _ hq)
    rw [deps, e, dep]
    omega
abbrev spIsR : Sp := spD (fun a : List (Rt Str) => [encR (.all a)]) (fun a => (∀ r ∈ a, CallA r) ∧ a.length ≤ 1000 ∧ (namesRs a).Nodup ∧ (namesRs a).length ≤ 1000) fun _ => .bool true
theorem dvAll_strs {H : Hp} : ∀ (xs : List Str), DvAll H (xs.map V.str) (xs.map .str)
  | [] => .nil
  | n :: ns => .cons (.str n) (dvAll_strs ns)
theorem ed_lenSet {ρ : En} {te : TE} {xs : List Str} (h : Ed ρ te (.list (xs.map .str))) (nd : xs.Nodup) (hl : xs.length ≤ 1000) : Ed ρ (tLenSetT K te) (.int (xs.length : Nat)) := fun σ H Q s q => h σ H _ s fun v H1 e1 h1 => by
  obtain ⟨a, vs, rfl, g1, g2⟩ := h1.of_lst
  rw [g2.strs] at g1
  exact ⟨a, xs, rfl, SqL.of g1, nd, hl, q _ H1 e1 (.int _)⟩
abbrev s_law_is_right : Stmt := topS 42
abbrev n_law_is_right : List Str := ["_law_thing"]
theorem sc_law_is_right : FnScope n_law_is_right ["_law_thing"] (defScope s_law_is_right) := ⟨rfl, rfl, rfl, by decide +kernel, rfl, by decide +kernel, by decide +kernel⟩
theorem ok_law_is_right (D : Dfn K mg "_law_is_right" s_law_is_right ["_law_thing"]) (Z : Bi mg) (C_law_formed : Cal P w K mg base "_law_formed" 3 spForm2) (C_law_names : Cal P w K mg base "_law_names" 2 (spNames 2)) : Cal P w K mg base "_law_is_right" 4 spIsR := by
  refine D.cal fun f fd F => def_ok F sc_law_is_right (fun _ => rfl) fun cdv A outer s H E hr => ?_
  refine ⟨_, (pss_one (ps_ret (pe_and (pe_cal C_law_formed (hr.mono (by omega)) rfl (pa_cons (pv 0) (pa_cons pe_int pa_nil))) (pe_one (pe_cmpR op_eq (pe_lenSetT rfl rfl Z.len rfl Z.set (pe_cal C_law_names (hr.mono (by omega)) rfl (pa_cons (pv 0) pa_nil))) (pe_callB call_len_seq rfl Z.len bt_len (pa_cons (pe_cal C_law_names (hr.mono (by omega)) rfl (pa_cons (pv 0) pa_nil)) pa_nil)) (nomark _)))))), fun rs hp => ?_⟩
  obtain ⟨h1, h2, h3, h4⟩ := hp
  have hd : deps rs ≤ 1 := deps_calls rs h1
  have names : ∀ {ρ : En}, ρ[0]? = some (some (encR (.all rs))) → Ed ρ (tCall (spNames 2) [] E0 (tCons (tVar 0) tNil)) (.list ((namesRs rs).map .str)) := fun h => Ed.is (ed_call (.all rs) (ea_cons (ed_var h) ea_nil) ⟨by rw [namesR]; omega, by rw [dep]; omega⟩) (by rw [namesR])
  show Eo [some (encR (.all rs))] _ _
  refine eo_ret (Ed.is (ed_andV (a := true) (ed_call (rs, 6) (ea_cons (ed_var rfl) (ea_cons ed_int ea_nil)) ⟨h1, by show (2 : Int) ≤ 6; decide, h2⟩) fun _ => ed_eqI (ed_lenSet (names rfl) h3 h4) (Ed.is (ed_lenL (names rfl)) (by rw [List.length_map]))) ?_)
  rw [decide_eq_true rfl]
  rfl
end
end K27
end
section
set_option Elab.async false
set_option linter.all false
set_option maxRecDepth 100000
set_option maxHeartbeats 1000000
namespace K27
open PySem PySem.Spec PyProof.Rows L2
/-! ## one written thing of a def's own: the rest stands without it -/
def er (H : Hp) (l : Addr) : Hp := fun b => if b = l then none else H b
theorem er_le (H : Hp) (l : Addr) : Same (er H l) H := fun b x e => by
  unfold er at e
  split at e
  · cases e
  · exact e
theorem er_same {H H' : Hp} {l : Addr} (e : Same H H') : Same (er H l) (er H' l) := fun b x h => by
  unfold er at h ⊢
  split at h
  · cases h
  · rename_i hb
    rw [if_neg hb]
    exact e b x h
theorem er_upd {H : Hp} {l : Addr} {o : HO} : er (upd H l o) l = er H l := by
  funext b
  unfold er
  by_cases h : b = l
  · rw [if_pos h, if_pos h]
  · rw [if_neg h, if_neg h, upd_ne h]
theorem er_new {H : Hp} {l : Addr} {o : HO} (h : H l = none) : er (upd H l o) l = H := by
  rw [er_upd]
  funext b
  unfold er
  by_cases hb : b = l
  · rw [if_pos hb, hb, h]
  · rw [if_neg hb]
theorem er_imm {H : Hp} {l : Addr} (h : ∀ p xs, H l ≠ some (.frz p (.tup xs))) : Imm H (er H l) := fun a p xs e => by
  unfold er
  by_cases z : a = l
  · subst z
    exact absurd e (h p xs)
  · rw [if_neg z]
    exact e
theorem er_er {H H1 H2 : Hp} {l : Addr} (a : Same (er H l) (er H1 l)) (b : Same (er H1 l) (er H2 l)) : Same (er H l) (er H2 l) := a.trans b
/-- how the own thing stands for something -/
structure CR {α : Type} (C : Hp → HO → α → Prop) : Prop where
  imm : ∀ {H H' : Hp} {o : HO} {c : α}, Imm H H' → C H o c → C H' o c
  nf : ∀ {H : Hp} {o : HO} {c : α}, C H o c → ∀ p xs, o ≠ .frz p (.tup xs)
structure Own {α : Type} (C : Hp → HO → α → Prop) (H : Hp) (l : Addr) (c : α) : Prop where
  ex : ∃ o, H l = some o ∧ C H o c
section
variable {α : Type} {C : Hp → HO → α → Prop} {ρ ρ' ρ1 ρ2 : En} {k : Nat} {c c1 c' : α} {t u : TS} {te : TE} {tt : TT} {K : PySem.W.Frag}
theorem Own.nf {H : Hp} {l : Addr} (R : CR C) (o : Own C H l c) : ∀ p xs, H l ≠ some (.frz p (.tup xs)) := fun p xs e => by
  obtain ⟨ob, h1, h2⟩ := o.ex
  rw [h1] at e
  cases e
  exact R.nf h2 p xs rfl
theorem Own.mono {H H' : Hp} {l : Addr} (R : CR C) (o : Own C H l c) (e : Same H H') : Own C H' l c := by
  obtain ⟨ob, h1, h2⟩ := o.ex
  exact ⟨ob, e _ _ h1, R.imm (Same.imm e) h2⟩
def EdW (C : Hp → HO → α → Prop) (k : Nat) (ρ : En) (c : α) (te : TE) (d : PD) : Prop := ∀ (σ : L2.St) (H : Hp) (l : Addr) (Q : VK), Sg (er H l) σ ρ → σ[k]? = some (some (.ref l)) → Own C H l c → (∀ v H', Same H H' → Dv H' v d → Q v H') → te σ H Q
def EtW (C : Hp → HO → α → Prop) (k : Nat) (ρ : En) (c : α) (tt : TT) (b : Bool) : Prop := ∀ (σ : L2.St) (H : Hp) (l : Addr) (Q : Bool → Hp → Prop), Sg (er H l) σ ρ → σ[k]? = some (some (.ref l)) → Own C H l c → (∀ H', Same H H' → Q b H') → tt σ H Q
def EiW (C : Hp → HO → α → Prop) (k : Nat) (ρ : En) (c : α) (wi : TI) (ds : List PD) : Prop := ∀ (σ : L2.St) (H : Hp) (l : Addr) (R : It → Hp → Prop), Sg (er H l) σ ρ → σ[k]? = some (some (.ref l)) → Own C H l c → (∀ J H1, Same H H1 → Wk J (er H1 l) ds → R J H1) → wi σ H R
def Eow (C : Hp → HO → α → Prop) (k : Nat) (ρ : En) (c : α) (t : TS) (ρ' : En) (c' : α) : Prop := ∀ (D : Ends) (σ : L2.St) (H : Hp) (l : Addr), Sg (er H l) σ ρ → σ[k]? = some (some (.ref l)) → Own C H l c →
  (∀ σ' H', Same (er H l) (er H' l) → Sg (er H' l) σ' ρ' → σ'[k]? = some (some (.ref l)) → Own C H' l c' → D.nx σ' H') → t D σ H
theorem Ed.w {d : PD} (h : Ed ρ te d) : EdW C k ρ c te d := fun σ H l Q s _ _ q => h σ H Q (s.mono (er_le H l)) q
theorem Et.w {b : Bool} (h : Et ρ tt b) : EtW C k ρ c tt b := fun σ H l Q s _ _ q => h σ H Q (s.mono (er_le H l)) q
theorem etw_test {b : Bool} (h : EdW C k ρ c te (.bool b)) : EtW C k ρ c (tTest te) b := fun σ H l Q s hk o q => h σ H l _ s hk o fun v H1 e1 h1 => ⟨b, h1.of_bl, q H1 e1⟩
theorem Eow.weak (h : Eow C k ρ' c t ρ1 c') (l : Le ρ' ρ) : Eow C k ρ c t ρ1 c' := fun D σ H a s => h D σ H a (s.le l)
theorem Eow.less (h : Eow C k ρ c t ρ1 c') (l : Le ρ2 ρ1) : Eow C k ρ c t ρ2 c' := fun D σ H a s hk o q => h D σ H a s hk o fun σ' H' e s' => q σ' H' e (s'.le l)
theorem eow_next : Eow C k ρ c tNext ρ c := fun D σ H l s hk o q => q σ H (Same.refl _) s hk o
theorem eow_seq (h1 : Eow C k ρ c t ρ1 c1) (h2 : Eow C k ρ1 c1 u ρ2 c') : Eow C k ρ c (tSeq t u) ρ2 c' := fun D σ H l s hk o q => h1 { D with nx := u D } σ H l s hk o fun σ' H' e s' hk' o' => h2 D σ' H' l s' hk' o' fun σ2 H2 e2 s2 hk2 o2 => q σ2 H2 (e.trans e2) s2 hk2 o2
theorem eow_set {i : Nat} {d : PD} (R : CR C) (h : EdW C k ρ c te d) (hn : noL d = true) (hi : i ≠ k) : Eow C k ρ c (tAsg te (gName i)) (ρ.set i (some d)) c := fun D σ H l s hk o q => h σ H l _ s hk o fun v H1 e1 h1 => by
  have o1 := o.mono R e1
  refine q _ H1 (er_same e1) ((s.mono (er_same e1)).set i (h1.imm (er_imm (o1.nf R)) hn)) ?_ o1
  rw [List.getElem?_set_ne hi]
  exact hk
theorem eow_drop {d : PD} (R : CR C) (h : EdW C k ρ c te d) : Eow C k ρ c (tDrop te) ρ c := fun D σ H l s hk o q => h σ H l _ s hk o fun v H1 e1 h1 => q σ H1 (er_same e1) (s.mono (er_same e1)) hk (o.mono R e1)
theorem eow_if {b : Bool} (R : CR C) (h : EtW C k ρ c tt b) (h1 : b = true → Eow C k ρ c t ρ' c') (h2 : b = false → Eow C k ρ c u ρ' c') : Eow C k ρ c (tIfS tt t u) ρ' c' := fun D σ H l s hk o q => h σ H l _ s hk o fun H1 e1 => by
  have o1 := o.mono R e1
  have s1 := s.mono (er_same (l := l) e1)
  cases b with
  | true => exact h1 rfl D σ H1 l s1 hk o1 fun σ2 H2 e2 => q σ2 H2 ((er_same e1).trans e2)
  | false => exact h2 rfl D σ H1 l s1 hk o1 fun σ2 H2 e2 => q σ2 H2 ((er_same e1).trans e2)
/-- what a target stores -/
def noJ (ρ ρ2 : En) (js : List Nat) : Prop := ∀ i d, ρ2[i]? = some (some d) → (i ∈ js → noL d = true) ∧ (i ∉ js → ρ[i]? = some (some d))
theorem eow_for {wi : TI} {g : TG} {tb : TS} {ds : List PD} (R : CR C) (inv : Nat → En) (cs : Nat → α) (h : EiW C k ρ (cs 0) wi ds) (h0 : Le (inv 0) ρ)
    (ht : ∀ i d, ds[i]? = some d → ∃ js ρ2, Eg (inv i) g d js ρ2 ∧ k ∉ js ∧ noJ (inv i) ρ2 js ∧ Eow C k ρ2 (cs i) tb (inv (i + 1)) (cs (i + 1))) : Eow C k ρ (cs 0) (tFor wi g tb) (inv ds.length) (cs ds.length) := fun D σ H l s hk o q => h σ H l _ s hk o fun J H1 e1 w => by
  have o1 := o.mono R e1
  refine ⟨fun i m σ' H' => m = ds.length - i ∧ i ≤ ds.length ∧ Same (er H1 l) (er H' l) ∧ Sg (er H' l) σ' (inv i) ∧ σ'[k]? = some (some (.ref l)) ∧ Own C H' l (cs i), ⟨_, rfl, Nat.zero_le _, Same.refl _, (s.mono (er_same e1)).le h0, hk, o1⟩, ?_⟩
  rintro i m σ2 H2 ⟨rfl, hi, e2, s2, hk2, o2⟩
  have e2' : Same (er H1 l) H2 := e2.trans (er_le H2 l)
  by_cases hlt : i < ds.length
  · refine .inr ⟨w.goes i H2 e2' hlt, fun σ' H' => i + 1 ≤ ds.length ∧ Same (er H1 l) (er H' l) ∧ Sg (er H' l) σ' (inv (i + 1)) ∧ σ'[k]? = some (some (.ref l)) ∧ Own C H' l (cs (i + 1)), fun σ' H' p => ⟨ds.length - (i + 1), by omega, rfl, p⟩, fun x H3 y => ?_⟩
    obtain ⟨e3, d, hd, hx⟩ := w.yields i H2 x H3 e2' hlt y
    obtain ⟨js, ρ2, k1, k2, k3, k4⟩ := ht i d hd
    have o3 := o2.mono R e3
    refine k1 x σ2 H3 _ ((s2.mono (er_same e3)).mono (er_le H3 l)) hx fun σ3 s3 l3 f3 => ?_
    have s4 : Sg (er H3 l) σ3 ρ2 := ⟨s3.len, fun j d' hj => by
      obtain ⟨v, hv, hdv⟩ := s3.at_ j d' hj
      by_cases hm : j ∈ js
      · exact ⟨v, hv, hdv.imm (er_imm (o3.nf R)) ((k3 j d' hj).1 hm)⟩
      · obtain ⟨v', hv', hdv'⟩ := (s2.mono (er_same e3)).at_ j d' ((k3 j d' hj).2 hm)
        exact ⟨v', (f3 j hm).trans hv', hdv'⟩⟩
    refine k4 { D with nx := _, ct := _, bk := D.nx } σ3 H3 l s4 ((f3 k k2).trans hk2) o3 fun σ4 H4 e4 s5 hk5 o5 => ⟨by omega, e2.trans ((er_same e3).trans e4), s5, hk5, o5⟩
  · have hi' : i = ds.length := by omega
    subst hi'
    exact .inl ⟨w.stops H2 e2', q σ2 H2 ((er_same e1).trans e2) s2 hk2 o2⟩
/-! iterators while something is written -/
theorem eiw_tup {i : Nat} {ds : List PD} (h : ρ[i]? = some (some (.tuple ds))) : EiW C k ρ c (iTup K (tVar i)) ds := fun σ H l R s _ _ q => by
  obtain ⟨v, h1, h2⟩ := s.at_ i _ h
  obtain ⟨a, xs, rfl, g1, g2⟩ := h2.of_tup
  exact ⟨_, h1, a, rfl, ⟨xs, (g1.mono (er_le H l)).seq⟩, q _ H (Same.refl H) (wk_tup g1 g2)⟩
theorem eiw_list {i : Nat} {ds : List PD} (h : ρ[i]? = some (some (.list ds))) : EiW C k ρ c (iList K (tVar i)) ds := fun σ H l R s _ _ q => by
  obtain ⟨v, h1, h2⟩ := s.at_ i _ h
  obtain ⟨a, xs, rfl, g1, g2⟩ := h2.of_lst
  exact ⟨_, h1, a, rfl, ⟨xs, SqL.of (er_le H l _ _ g1)⟩, q _ H (Same.refl H) (wk_list g1 g2)⟩
theorem eiw_range {n : Int} (h : EdW C k ρ c te (.int n)) (h1 : -1000000 ≤ n) (h2 : n ≤ 1000000) : EiW C k ρ c (iRng1 (tCons te tNil)) (upTo n) := fun σ H l R s hk o q => h σ H l _ s hk o fun v H1 e1 g1 => by
  cases g1
  refine ⟨n, rfl, by omega, by omega, q _ H1 e1 ⟨fun i H2 e hi => ?_, fun H2 e => ?_, fun i H2 x H3 e hi y => ?_⟩⟩
  · rw [upTo_len] at hi
    exact hi
  · show n.toNat ≤ (upTo n).length
    rw [upTo_len]
    exact Nat.le_refl _
  · rw [upTo_len] at hi
    obtain ⟨rfl, rfl⟩ := y
    refine ⟨Same.refl _, _, upTo_get hi, ?_⟩
    rw [Int.zero_add]
    exact .int _
theorem EiW.is {wi : TI} {ds es : List PD} (h : EiW C k ρ c wi ds) (e : ds = es) : EiW C k ρ c wi es := e ▸ h
theorem EdW.is {d e : PD} (h : EdW C k ρ c te d) (q : d = e) : EdW C k ρ c te e := q ▸ h
theorem EtW.is {a b : Bool} (h : EtW C k ρ c tt a) (q : a = b) : EtW C k ρ c tt b := q ▸ h
theorem Eow.is {c2 : α} (h : Eow C k ρ c t ρ' c') (q : c' = c2) : Eow C k ρ c t ρ' c2 := q ▸ h
end
theorem DvAll.set {H : Hp} : ∀ {vs : List V} {ds : List PD} {v : V} {d : PD} (_ : DvAll H vs ds) (j : Nat) (_ : Dv H v d), DvAll H (vs.set j v) (ds.set j d)
  | [], [], _, _, .nil, _, _ => .nil
  | _ :: _, _ :: _, _, _, .cons _ a, 0, g => .cons g a
  | _ :: _, _ :: _, _, _, .cons h a, j + 1, g => .cons h (DvAll.set a j g)
theorem noLAll_set : ∀ {ds : List PD} {d : PD}, noLAll ds = true → noL d = true → ∀ j, noLAll (ds.set j d) = true
  | [], _, _, _, _ => rfl
  | x :: xs, d, h, hd, 0 => by
    simp only [noLAll, Bool.and_eq_true] at h
    simp only [List.set_cons_zero, noLAll, Bool.and_eq_true]
    exact ⟨hd, h.2⟩
  | x :: xs, d, h, hd, j + 1 => by
    simp only [noLAll, Bool.and_eq_true] at h
    simp only [List.set_cons_succ, noLAll, Bool.and_eq_true]
    exact ⟨h.1, noLAll_set h.2 hd j⟩
/-! ### a list of plain things -/
def CL (H : Hp) (o : HO) (ds : List PD) : Prop := ∃ vs, o = .lst vs ∧ DvAll H vs ds ∧ noLAll ds = true
theorem crL : CR CL := ⟨fun e h => by
  obtain ⟨vs, rfl, a, n⟩ := h
  exact ⟨vs, rfl, a.imm e n, n⟩, fun h p xs e => by
  obtain ⟨vs, rfl, _⟩ := h
  cases e⟩
theorem noLAll_snoc {ds : List PD} {d : PD} (h : noLAll ds = true) (hd : noL d = true) : noLAll (ds ++ [d]) = true := noLAll_append h (by simp [noLAll, hd])
section
variable {ρ ρ' : En} {k : Nat} {ds ds' : List PD} {t u : TS} {te ti : TE} {tt : TT} {K : PySem.W.Frag} {o : Oc}
theorem own_sg {H : Hp} {σ : L2.St} {l : Addr} (s : Sg (er H l) σ ρ) (hk : σ[k]? = some (some (.ref l))) (ow : Own CL H l ds) : Sg H σ (ρ.set k (some (.list ds))) := by
  obtain ⟨o, h1, vs, rfl, h2, _⟩ := ow.ex
  refine ⟨by rw [List.length_set]; exact s.len, fun j d hj => ?_⟩
  by_cases hkj : k = j
  · subst hkj
    have hl : k < ρ.length := by
      rw [← s.len]
      exact (List.getElem?_eq_some_iff.mp hk).1
    rw [List.getElem?_set_self hl] at hj
    cases hj
    exact ⟨_, hk, .lst h1 h2⟩
  · rw [List.getElem?_set_ne hkj] at hj
    obtain ⟨v, g1, g2⟩ := s.at_ j d hj
    exact ⟨v, g1, g2.mono (er_le H l)⟩
theorem Ed.wl {d : PD} (h : Ed (ρ.set k (some (.list ds))) te d) : EdW CL k ρ ds te d := fun σ H l Q s hk ow q => h σ H Q (own_sg s hk ow) q
theorem eow_append {d : PD} (h : EdW CL k ρ ds te d) (hn : noL d = true) (hz : ds.length < 1000000) : Eow CL k ρ ds (tDrop (tBM K "list" rAppend (tVar k) (tCons te tNil))) ρ (ds ++ [d]) := fun D σ H l s hk ow q => by
  refine ⟨_, hk, ?_, ?_⟩
  · obtain ⟨o, h1, vs, rfl, h2, h3⟩ := ow.ex
    exact .inl ⟨rfl, vs, SqL.of h1⟩
  · refine h σ H l _ s hk ow fun v H1 e1 g => ?_
    obtain ⟨o, h1, vs, rfl, h2, h3⟩ := (ow.mono crL e1).ex
    refine ⟨l, vs, v, rfl, rfl, h1, ?_, ?_⟩
    · rw [h2.length]
      exact Nat.lt_of_lt_of_le hz (by decide)
    · have im : Imm H1 (upd H1 l (.lst (vs ++ [v]))) := Imm.mut h1
      refine q σ _ ?_ ?_ hk ⟨_, upd_same, vs ++ [v], rfl, (h2.imm im h3).append (.one (g.imm im hn)), noLAll_snoc h3 hn⟩
      · rw [er_upd]
        exact er_same e1
      · rw [er_upd]
        exact s.mono (er_same e1)
theorem eow_put {d : PD} {i : Int} {j : Nat} (h : EdW CL k ρ ds te d) (hi : Ed (ρ.set k (some (.list ds))) ti (.int i)) (hn : noL d = true) (hj : ixN ds.length i = some j) : Eow CL k ρ ds (tAsg te (gSub (tVar k) ti rSetL)) ρ (ds.set j d) := fun D σ H l s hk ow q => by
  refine h σ H l _ s hk ow fun v H1 e1 g => ?_
  have ow1 := ow.mono crL e1
  have s1 := s.mono (er_same (l := l) e1)
  refine ⟨_, hk, hi σ H1 _ (own_sg s1 hk ow1) fun w H2 e2 g2 => ?_⟩
  cases g2
  obtain ⟨o, h1, vs, rfl, h2, h3⟩ := (ow1.mono crL e2).ex
  refine ⟨l, vs, i, j, rfl, rfl, h1, by rw [h2.length]; exact hj, ?_⟩
  have im : Imm H2 (upd H2 l (.lst (vs.set j v))) := Imm.mut h1
  refine q σ _ ?_ ?_ hk ⟨_, upd_same, _, rfl, (h2.imm im h3).set j ((g.mono e2).imm im hn), noLAll_set h3 hn j⟩
  · rw [er_upd]
    exact er_same (e1.trans e2)
  · rw [er_upd]
    exact s.mono (er_same (e1.trans e2))
/-- a new list at a place that was free -/
def EdF (ρ : En) (te : TE) (d : PD) : Prop := ∀ (σ : L2.St) (H : Hp) (Q : VK), Sg H σ ρ → (∀ p H1 o, Same H H1 → H1 p = none → Dv (upd H1 p o) (.ref p) d → Q (.ref p) (upd H1 p o)) → te σ H Q
theorem edf_lst {ta : TA} (h : EdA ρ ta ds) (hz : ds.length ≤ 1000000) : EdF ρ (tLst ta) (.list ds) := fun σ H Q s q =>
  h σ H _ s fun vs H1 e1 h1 => ⟨by rw [h1.length]; exact sizes hz, fun p hp => q p H1 _ e1 hp (.lst upd_same (h1.mono (Same.new hp)))⟩
/-- it is made, written, and then left to the rest -/
theorem eo_own (hf : EdF ρ te (.list ds)) (hn : noLAll ds = true) (hk : k < ρ.length) (h : Eow CL k (ρ.set k none) ds t ρ' ds') (hu : Eo (ρ'.set k (some (.list ds'))) u o) : Eo ρ (tSeq (tAsg te (gName k)) (tSeq t u)) o := fun D σ H s q =>
  hf σ H _ s fun p H1 ob e1 hp hd => by
    have hl : k < σ.length := by rw [s.len]; exact hk
    have e2 : er (upd H1 p ob) p = H1 := er_new hp
    obtain ⟨vs, ho, hvs⟩ : ∃ vs, upd H1 p ob p = some (.lst vs) ∧ DvAll (upd H1 p ob) vs ds := by
      obtain ⟨a, xs, e, g1, g2⟩ := hd.of_lst
      cases e
      exact ⟨xs, g1, g2⟩
    refine h { D with nx := u D } (σ.set k (some (.ref p))) (upd H1 p ob) p ?_ (List.getElem?_set_self hl) ⟨_, ho, vs, rfl, hvs, hn⟩ fun σ' H' e s' hk' ow => ?_
    · rw [e2]
      refine ⟨by rw [List.length_set, List.length_set]; exact s.len, fun j d hj => ?_⟩
      by_cases hkj : k = j
      · subst hkj
        rw [List.getElem?_set_self hk] at hj
        cases hj
      · rw [List.getElem?_set_ne hkj] at hj
        obtain ⟨v, g1, g2⟩ := (s.mono e1).at_ j d hj
        exact ⟨v, by rw [List.getElem?_set_ne hkj]; exact g1, g2⟩
    · rw [e2] at e
      refine hu D σ' H' (own_sg s' hk' ow) (Oc.to_mono q ((e1.trans e).trans (er_le H' p)))
end
end K27
end
section
set_option Elab.async false
set_option linter.all false
set_option maxRecDepth 100000
set_option maxHeartbeats 1000000
namespace K27
open PySem PySem.Spec PyProof.Rows L2

local macro_rules | `(tactic| walk_at "ed") => `(tactic| first
  | exact ed_var rfl | exact ed_int | exact ed_str | exact ed_non | exact ed_bl
  | (apply ed_ixT <;> first | rfl | walk_at "ed")
  | (apply ed_add <;> walk_at "ed")
  | (apply ed_sub <;> walk_at "ed")
  | (apply ed_min2 <;> walk_at "ed")
  | (apply ed_max2 <;> walk_at "ed")
  | (apply ed_eqS <;> walk_at "ed")
  | (apply ed_neS <;> walk_at "ed")
  | (apply ed_isN <;> walk_at "ed")
  | (apply ed_notN <;> walk_at "ed")
  | (apply ed_lt <;> walk_at "ed")
  | (apply ed_le <;> walk_at "ed")
  | (apply ed_gt <;> walk_at "ed")
  | (apply ed_ge <;> walk_at "ed")
  | (apply ed_mul <;> first | walk_at "ed" | skip)
  | (apply ed_in2 <;> walk_at "ed")
  | (apply ed_tup <;> first | (show EdA _ _ _; walk_at "ea") | (simp only [List.length_cons, List.length_nil]; decide) | skip)
  | (apply ed_lst <;> first | (show EdA _ _ _; walk_at "ea") | (simp only [List.length_cons, List.length_nil]; decide) | skip)
  | skip)
local macro_rules | `(tactic| walk_at "ea") => `(tactic| first
  | exact ea_nil
  | (apply ea_cons <;> first | (show EdA _ _ _; walk_at "ea") | walk_at "ed"))
local macro_rules | `(tactic| walk_at "set") => `(tactic| (refine' eo_seq (eo_set ?kz1) ?kz2; (case kz1 => walk_at "ed")))
local macro_rules | `(tactic| walk_at "et") => `(tactic| first
  | (refine' et_test ?kz1; (case kz1 => walk_at "ed"))
  | (refine' et_B ?kz1; (case kz1 => walk_at "ed"))
  | skip)
local macro_rules | `(tactic| walk_at "F") => `(tactic| (refine' eo_seq (eo_ifF (Et.is (et_test ?kz1) ?kz2) eo_next) ?kz3; (case kz1 => walk_at "ed"); (case kz2 => decide)))
local macro_rules | `(tactic| walk_at "T") => `(tactic| (refine' eo_ret1 (eo_ifT (Et.is (et_test ?kz1) ?kz2) (eo_ret ?kz3)); (case kz1 => walk_at "ed"); (case kz2 => decide)))
local macro_rules | `(tactic| walk_at "TB") => `(tactic| (refine' eo_ret1 (eo_ifT (Et.is (et_test ?kz1) ?kz2) ?kz3); (case kz1 => walk_at "ed"); (case kz2 => decide)))

/-! ### dicts of whole numbers -/
def encD (c : Pile) : PD := .dict (c.map fun x => (.int x.1, .int x.2))
def kvD (c : Pile) : List (L2.Key × V) := c.map fun x => (Sum.inl x.1, V.int x.2)
def lk : Pile → Int → Option Int
  | [], _ => none
  | (x, m) :: r, w => if x = w then some m else lk r w
theorem cnt_lk : ∀ (q : Pile) (w : Int), cnt q w = (lk q w).getD 0
  | [], _ => rfl
  | (x, m) :: r, w => by
    rw [cnt, lk, cnt_lk r w]
    split <;> rfl
theorem valV_kvD : ∀ (c : Pile) (w : Int), valV (kvD c) (Sum.inl w) = (lk c w).map V.int
  | [], _ => rfl
  | (x, m) :: r, w => by
    rw [lk]
    by_cases h : x = w
    · rw [if_pos h]
      exact valV_pos (congrArg Sum.inl h)
    · rw [if_neg h]
      exact (valV_neg (fun e => h (Sum.inl.inj e))).trans (valV_kvD r w)
theorem lk_mem : ∀ {c : Pile} {w m : Int}, (c.map (·.1)).Nodup → (w, m) ∈ c → lk c w = some m
  | (x, n) :: r, w, m, nd, h => by
    rw [lk]
    obtain ⟨n1, n2⟩ := List.nodup_cons.mp nd
    rcases List.mem_cons.mp h with e | h
    · cases e
      rw [if_pos rfl]
    · rw [if_neg (fun e => n1 (List.mem_map.mpr ⟨(w, m), h, e.symm⟩))]
      exact lk_mem n2 h
theorem Grow.nd {p : Pile} (h : Grow p) : (p.map (·.1)).Nodup := by
  rw [List.nodup_iff_pairwise_ne, List.pairwise_map]
  exact List.Pairwise.imp (fun h => Int.ne_of_lt h) h
def putI (c : Pile) (w m : Int) : Pile := c.map fun x => if x.1 = w then (x.1, m) else x
theorem putK_kvD {c : Pile} {w m v : Int} (h : lk c w = some v) : putK (kvD c) (Sum.inl w) (.int m) = kvD (putI c w m) := by
  unfold putK
  rw [if_pos]
  · unfold kvD putI
    rw [List.map_map, List.map_map]
    apply List.map_congr_left
    intro x _
    show (if (Sum.inl x.1 : L2.Key) = Sum.inl w then _ else _) = _
    by_cases e : x.1 = w
    · rw [if_pos (congrArg Sum.inl e)]
      show _ = (fun x : Int × Int => ((Sum.inl x.1 : L2.Key), V.int x.2)) (if x.1 = w then (x.1, m) else x)
      rw [if_pos e]
    · rw [if_neg (fun z => e (Sum.inl.inj z))]
      show _ = (fun x : Int × Int => ((Sum.inl x.1 : L2.Key), V.int x.2)) (if x.1 = w then (x.1, m) else x)
      rw [if_neg e]
  · rw [valV_any, valV_kvD, h]
    rfl
theorem merge_new : ∀ (more acc : Pile), (∀ x ∈ more, x.1 ∉ acc.map (·.1)) → (more.map (·.1)).Nodup → mergeK (kvD acc) (kvD more) = kvD (acc ++ more)
  | [], acc, _, _ => by rw [List.append_nil]; rfl
  | (x, m) :: more, acc, h, nd => by
    obtain ⟨n1, n2⟩ := List.nodup_cons.mp nd
    have hx := h (x, m) (List.mem_cons_self ..)
    have e : putK (kvD acc) (Sum.inl x) (.int m) = kvD (acc ++ [(x, m)]) := by
      unfold putK
      rw [if_neg]
      · unfold kvD
        rw [List.map_append]
        rfl
      · intro z
        obtain ⟨y, hy, ey⟩ := List.any_eq_true.mp z
        obtain ⟨p, hp, rfl⟩ := List.mem_map.mp hy
        exact hx (List.mem_map.mpr ⟨p, hp, Sum.inl.inj (of_decide_eq_true ey)⟩)
    have q := merge_new more (acc ++ [(x, m)]) (fun y hy hm => by
      rw [List.map_append] at hm
      rcases List.mem_append.mp hm with hm | hm
      · exact h y (List.mem_cons_of_mem _ hy) hm
      · have : y.1 = x := by simpa using hm
        exact n1 (List.mem_map.mpr ⟨y, hy, this⟩)) n2
    rw [List.append_assoc] at q
    show mergeK (putK (kvD acc) (Sum.inl x) (.int m)) (kvD more) = _
    rw [e, q]
    rfl
theorem pairs_dv {H : Hp} {K : PySem.W.Frag} : ∀ {xs : List V} (p : Pile), DvAll H xs (p.map encL) → ∃ ps : List Addr, xs = ps.map V.ref ∧ Paired (fun (q : Addr) (kv : L2.Key × V) => SqT K H q [kV kv.1, kv.2]) ps (kvD p)
  | [], [], .nil => ⟨[], rfl, .nil⟩
  | _ :: _, x :: p, .cons h a => by
    obtain ⟨ps, e, h2⟩ := pairs_dv p a
    obtain ⟨b, ys, rfl, g1, g2⟩ := h.of_tup
    rw [DvAll.ints (ns := [x.1, x.2]) g2] at g1
    exact ⟨b :: ps, by rw [e]; rfl, .cons g1.seq h2⟩
section
variable {ρ : En} {K : PySem.W.Frag} {ta tb te td ti : TE} {c : Pile}
theorem Dv.of_dct {H : Hp} {v : V} (h : Dv H v (encD c)) : ∃ a, v = .ref a ∧ H a = some (.dK (kvD c)) := by
  generalize e : encD c = d at h
  cases h with
  | dct h1 h2 =>
    rename_i a kvs ds
    refine ⟨a, rfl, ?_⟩
    unfold encD at e
    cases e
    have : c = kvs := by
      clear h1
      induction c generalizing kvs with
      | nil => cases kvs with
        | nil => rfl
        | cons y r => cases h2
      | cons x c ih => cases kvs with
        | nil => cases h2
        | cons y r =>
          simp only [List.map_cons, List.cons.injEq, Prod.mk.injEq, PyData.int.injEq] at h2
          obtain ⟨⟨a1, a2⟩, a3⟩ := h2
          rw [ih a3, Prod.ext a1 a2]
    rw [this]
    exact h1
  | _ => cases e
theorem Dv.dctI {H : Hp} {a : Addr} (h : H a = some (.dK (kvD c))) : Dv H (.ref a) (encD c) := .dct h rfl
theorem ed_dget {w v : Int} (h : Ed ρ td (encD c)) (hi : Ed ρ ti (.int w)) (hv : lk c w = some v) : Ed ρ (tDGet td ti) (.int v) := fun σ H Q s q => h σ H _ s fun x H1 e1 h1 => hi σ H1 _ (s.mono e1) fun y H2 e2 h2 => by
  obtain ⟨a, rfl, g⟩ := (h1.mono e2).of_dct
  cases h2
  refine ⟨a, .int v, rfl, ?_, q _ H2 (e1.trans e2) (.int v)⟩
  have := DGet.k (k := Sum.inl w) g
  rw [valV_kvD, hv] at this
  exact this
theorem ed_dget2 {w : Int} (h : Ed ρ td (encD c)) (hi : Ed ρ ti (.int w)) : Ed ρ (tDGet2 td ti (tC (.int 0))) (.int (cnt c w)) := fun σ H Q s q => h σ H _ s fun x H1 e1 h1 => by
  obtain ⟨a, rfl, g⟩ := h1.of_dct
  refine ⟨a, rfl, .inl ⟨_, .inl g⟩, hi σ H1 _ (s.mono e1) fun y H2 e2 h2 => ?_⟩
  cases h2
  refine ⟨_, DGet.k (k := Sum.inl w) (e2 _ _ g), ?_⟩
  rw [cnt_lk] at q
  rw [valV_kvD]
  cases e : lk c w with
  | none =>
    rw [e] at q
    exact q _ H2 (e1.trans e2) (.int 0)
  | some v =>
    rw [e] at q
    exact q _ H2 (e1.trans e2) (.int v)
/-- a new dict at a place that was free -/
theorem edf_dict {p : Pile} (h : Ed ρ te (encP p)) (nd : (p.map (·.1)).Nodup) : EdF ρ (tCB (fun xs H Q => ∃ (a : Addr) (ps : List Addr) (kvs : List (L2.Key × V)), xs = [.ref a] ∧ TF H a (ps.map V.ref) ∧ Paired (fun p kv => SqT K H p [kV kv.1, kv.2]) ps kvs ∧
    ∀ p, H p = none → Q (.ref p) (upd H p (.dK (mergeK [] kvs)))) (tCons te tNil)) (encD p) := fun σ H Q s q => h σ H _ s fun v H1 e1 h1 => by
  obtain ⟨a, xs, rfl, g1, g2⟩ := h1.of_tup
  obtain ⟨ps, e, g3⟩ := pairs_dv (K := K) p g2
  subst e
  refine ⟨a, ps, kvD p, rfl, g1, g3, fun b hb => ?_⟩
  have em : mergeK [] (kvD p) = kvD p := merge_new p [] (fun _ _ z => nomatch z) nd
  rw [em]
  exact q b H1 _ e1 hb (.dctI upd_same)
theorem EdF.ed {d : PD} (h : EdF ρ te d) : Ed ρ te d := fun σ H Q s q => h σ H Q s fun p H1 o e1 hp hd => q _ _ (e1.trans (Same.new hp)) hd
theorem ed_sortedD (h : Ed ρ te (encD c)) (hg : Grow c) (hl : c.length < 64) : Ed ρ (tCB (fun xs H Q => ∃ (a : Addr) (kvs : List (L2.Key × V)) (ks : List Int), xs = [.ref a] ∧ Rd H a (.dK kvs) ∧ kvs.map (·.1) = ks.map Sum.inl ∧ ks.length < 64 ∧
    ∀ (ys : List Int) (p : Addr), ys.Perm ks → ys.Pairwise (· ≤ ·) → H p = none → Q (.ref p) (upd H p (.lst (ys.map V.int)))) (tCons te tNil)) (.list (c.map fun x => .int x.1)) := ed_cb1 h fun v H Q hv q => by
  obtain ⟨a, rfl, g⟩ := hv.of_dct
  refine ⟨a, kvD c, c.map (·.1), rfl, .inl g, by unfold kvD; rw [List.map_map, List.map_map]; rfl, by rw [List.length_map]; exact hl, fun ys p hp hs hn => ?_⟩
  have hs2 : (c.map (·.1)).Pairwise (· ≤ ·) := by
    rw [List.pairwise_map]
    exact List.Pairwise.imp (fun h => Int.le_of_lt h) hg
  have e : ys = c.map (·.1) := List.Perm.eq_of_pairwise (fun _ _ _ _ a b => Int.le_antisymm a b) hs hs2 hp
  rw [e]
  refine q _ _ (Same.new hn) (.lst upd_same ?_)
  rw [show (c.map fun x => PyData.int x.1) = (c.map (·.1)).map PyData.int by rw [List.map_map]; rfl]
  exact DvAll.of_ints _
/-! an own dict -/
def CD (_ : Hp) (o : HO) (c : Pile) : Prop := o = .dK (kvD c)
theorem crD : CR CD := ⟨fun _ h => h, fun h p xs e => by
  unfold CD at h
  rw [h] at e
  cases e⟩
theorem own_sgD {H : Hp} {σ : L2.St} {l : Addr} {k : Nat} (s : Sg (er H l) σ ρ) (hk : σ[k]? = some (some (.ref l))) (ow : Own CD H l c) : Sg H σ (ρ.set k (some (encD c))) := by
  obtain ⟨o, h1, rfl⟩ := ow.ex
  refine ⟨by rw [List.length_set]; exact s.len, fun j d hj => ?_⟩
  by_cases hkj : k = j
  · subst hkj
    have hl : k < ρ.length := by
      rw [← s.len]
      exact (List.getElem?_eq_some_iff.mp hk).1
    rw [List.getElem?_set_self hl] at hj
    cases hj
    exact ⟨_, hk, .dctI h1⟩
  · rw [List.getElem?_set_ne hkj] at hj
    obtain ⟨v, g1, g2⟩ := s.at_ j d hj
    exact ⟨v, g1, g2.mono (er_le H l)⟩
theorem Ed.wd {d : PD} {k : Nat} (h : Ed (ρ.set k (some (encD c))) te d) : EdW CD k ρ c te d := fun σ H l Q s hk ow q => h σ H Q (own_sgD s hk ow) q
theorem eow_daug {k : Nat} {w v m : Int} (h1 : Ed ρ ta (.int w)) (h2 : Ed ρ tb (.int m)) (hv : lk c w = some v) (hz : c.length < 1000000) : Eow CD k ρ c (sDAug (tVar k) ta tb rSub) ρ (putI c w (v - m)) := fun D σ H l s hk ow q => by
  refine ⟨_, hk, h1 σ H _ (s.mono (er_le H l)) fun y H1 e1 g1 => ?_⟩
  cases g1
  obtain ⟨o, ho, rfl⟩ := ow.ex
  refine ⟨l, .int v, rfl, ?_, h2 σ H1 _ ((s.mono (er_le H l)).mono e1) fun y H2 e2 g2 => ?_⟩
  · have := DGet.k (k := Sum.inl w) (e1 _ _ ho)
    rw [valV_kvD, hv] at this
    exact this
  · cases g2
    have ho2 := e2 _ _ (e1 _ _ ho)
    refine ⟨v, m, rfl, rfl, _, DPut.k (k := Sum.inl w) (v := .int (v - m)) ho2 ?_, ?_⟩
    · unfold kvD
      rw [List.length_map]
      exact Nat.lt_of_lt_of_le hz (by decide)
    · rw [putK_kvD hv]
      refine q σ _ ?_ ?_ hk ⟨_, upd_same, rfl⟩
      · rw [er_upd]
        exact er_same (e1.trans e2)
      · rw [er_upd]
        exact s.mono (er_same (e1.trans e2))
theorem eo_ownD {k : Nat} {c' : Pile} {ρ' : En} {t u : TS} {o : Oc} (hf : EdF ρ te (encD c)) (hk : k < ρ.length) (h : Eow CD k (ρ.set k none) c t ρ' c') (hu : Eo (ρ'.set k (some (encD c'))) u o) : Eo ρ (tSeq (tAsg te (gName k)) (tSeq t u)) o := fun D σ H s q =>
  hf σ H _ s fun p H1 ob e1 hp hd => by
    have hl : k < σ.length := by rw [s.len]; exact hk
    have e2 : er (upd H1 p ob) p = H1 := er_new hp
    obtain ⟨a, ea, ho⟩ := hd.of_dct
    cases ea
    refine h { D with nx := u D } (σ.set k (some (.ref p))) (upd H1 p ob) p ?_ (List.getElem?_set_self hl) ⟨_, ho, rfl⟩ fun σ' H' e s' hk' ow => ?_
    · rw [e2]
      refine ⟨by rw [List.length_set, List.length_set]; exact s.len, fun j d hj => ?_⟩
      by_cases hkj : k = j
      · subst hkj
        rw [List.getElem?_set_self hk] at hj
        cases hj
      · rw [List.getElem?_set_ne hkj] at hj
        obtain ⟨v, g1, g2⟩ := (s.mono e1).at_ j d hj
        exact ⟨v, by rw [List.getElem?_set_ne hkj]; exact g1, g2⟩
    · rw [e2] at e
      exact hu D σ' H' (own_sgD s' hk' ow) (Oc.to_mono q ((e1.trans e).trans (er_le H' p)))
end
theorem noJ0 {ρ : En} : noJ ρ ρ [] := fun i d h => ⟨fun z => (nomatch z), fun _ => h⟩
theorem noJ.set {ρ ρ2 : En} {js js' : List Nat} {a : Nat} {d : PD} (h : noJ ρ ρ2 js) (hd : noL d = true) (hs : ∀ j, j ∈ js' ↔ (j = a ∨ j ∈ js)) : noJ ρ (ρ2.set a (some d)) js' := fun i d' hi => by
  by_cases e : a = i
  · subst e
    by_cases hl : a < ρ2.length
    · rw [List.getElem?_set_self hl] at hi
      cases hi
      exact ⟨fun _ => hd, fun z => absurd ((hs a).mpr (.inl rfl)) z⟩
    · rw [List.getElem?_eq_none (by simpa using hl)] at hi
      cases hi
  · rw [List.getElem?_set_ne e] at hi
    obtain ⟨h1, h2⟩ := h i d' hi
    refine ⟨fun hm => ?_, fun hm => h2 fun z => hm ((hs i).mpr (.inr z))⟩
    rcases (hs i).mp hm with z | z
    · exact absurd z.symm e
    · exact h1 z
theorem grow_notin {q : Pile} {i : Nat} {x : Int × Int} (h : Grow q) (e : q[i]? = some x) : x.1 ∉ (q.take i).map (·.1) := fun hm => by
  obtain ⟨y, hy, ey⟩ := List.mem_map.mp hm
  obtain ⟨j, hj⟩ := List.mem_iff_getElem?.mp hy
  rw [List.getElem?_take] at hj
  split at hj
  · rename_i hji
    obtain ⟨l1, e1⟩ := List.getElem?_eq_some_iff.mp hj
    obtain ⟨l2, e2⟩ := List.getElem?_eq_some_iff.mp e
    have := List.pairwise_iff_getElem.mp h j i l1 l2 hji
    rw [e1, e2] at this
    omega
  · cases hj
/-! ### a paying that a till can make -/
structure Sub (p q : Pile) : Prop where
  grow : Grow q
  len : q.length ≤ 1000
  at_ : ∀ x ∈ q, ∃ P, (x.1, P) ∈ p ∧ 1 ≤ x.2 ∧ x.2 ≤ P
theorem Sub.pb {p q : Pile} (h : Sub p q) (hp : PB p) : PB q := ⟨h.len, fun x hx => by
  obtain ⟨P, h1, h2, h3⟩ := h.at_ x hx
  have := hp.at_ _ h1
  simp only at this
  omega⟩
theorem cnt_nn {q : Pile} (h : ∀ x ∈ q, 0 ≤ x.2) (w : Int) : 0 ≤ cnt q w := by
  induction q with
  | nil => exact Int.le_refl _
  | cons x r ih =>
    obtain ⟨x, m⟩ := x
    unfold cnt
    split
    · exact h (x, m) (List.mem_cons_self ..)
    · exact ih fun y hy => h y (List.mem_cons_of_mem _ hy)
theorem take_pb {p q : Pile} (hp : PB p) (h : Sub p q) : PB (takeL p q) := by
  refine ⟨Nat.le_trans (List.length_filter_le ..) (by rw [List.length_map]; exact hp.len), fun x hx => ?_⟩
  unfold takeL at hx
  obtain ⟨h1, h2⟩ := List.mem_filter.mp hx
  obtain ⟨y, hy, rfl⟩ := List.mem_map.mp h1
  have h3 := of_decide_eq_true h2
  have := hp.at_ y hy
  have q0 := cnt_nn (q := q) (fun z hz => by obtain ⟨P, _, a, _⟩ := h.at_ z hz; omega) y.1
  simp only at h3 ⊢
  omega
theorem Grow.map {p : Pile} (h : Grow p) (f : Int × Int → Int) : Grow (p.map fun x => (x.1, f x)) := by
  unfold Grow
  rw [List.pairwise_map]
  exact List.Pairwise.imp (fun h => h) h
theorem take_grow {p q : Pile} (h : Grow p) : Grow (takeL p q) := List.Pairwise.filter _ (h.map _)
theorem cnt_snoc {q : Pile} {w m : Int} (h : w ∉ q.map (·.1)) (x : Int) : cnt (q ++ [(w, m)]) x = if x = w then m else cnt q x := by
  induction q with
  | nil =>
    show (if w = x then m else 0) = _
    by_cases e : x = w
    · rw [if_pos e, if_pos e.symm]
    · rw [if_neg e, if_neg fun z => e z.symm]
      rfl
  | cons y r ih =>
    obtain ⟨y, n⟩ := y
    rw [List.map_cons, List.mem_cons, not_or] at h
    show (if y = x then n else cnt (r ++ [(w, m)]) x) = if x = w then m else if y = x then n else cnt r x
    rw [ih h.2]
    by_cases e : y = x
    · rw [if_pos e, if_pos e, if_neg]
      intro z
      exact h.1 (by rw [← z, ← e])
    · rw [if_neg e, if_neg e]
section
variable {P : Program} {w : World} {K : PySem.W.Frag} {mg : Str → Option Value} {base : Heap}
abbrev spFromC : Sp := spD (fun c : Pile => [encD c]) (fun c => Grow c ∧ c.length < 64) fun c => encP (c.filter fun x => decide (x.2 > 0))
abbrev s_from_counts : Stmt := topS 11
abbrev n_from_counts : List Str := ["counts", "worth"]
theorem sc_from_counts : FnScope n_from_counts ["counts"] (defScope s_from_counts) := ⟨rfl, rfl, rfl, by decide +kernel, rfl, by decide +kernel, by decide +kernel⟩
theorem okfrom_counts (D : Dfn K mg "from_counts" s_from_counts ["counts"]) (Z : Bi mg) : Cal P w K mg base "from_counts" 1 spFromC := by
  refine D.cal fun f fd F => def_ok F sc_from_counts (fun _ => rfl) fun cdv A outer s H E hr => ?_
  refine ⟨_, (pss_one (ps_ret (pe_callTy call_tupleF rfl Z.tuple bt_tuple (pa_cons (pe_lc (own := [("worth", 1)]) (g := (gName 1)) (tt := _) rfl sc_from_counts.nd (pi_list (pe_callB (call_sortedDI rfl) rfl Z.sorted bt_sorted (pa_cons (pv 0) pa_nil))) (blkOk_by (own := [("worth", 1)]) (N := n_from_counts) (sc := defScope s_from_counts) (by decide +kernel)) (fun _ _ _ _ _ => (pg_name (i := 1) sc_from_counts.nd rfl (Or.inl rfl))) (fun _ _ _ _ _ => (pts_one (pt_cmpR op_gt (pe_dget (Nat.lt_trans (Nat.add_lt_add_left (by decide : 1 < 64) _) hr.units) (pv 0) (pv 1) (fun _ _ => rfl)) pe_int (nomark _)))) (fun _ _ _ _ _ => (pe_tupF (pa_cons (pv 1) (pa_cons (pe_dget (Nat.lt_trans (Nat.add_lt_add_left (by decide : 1 < 64) _) hr.units) (pv 0) (pv 1) (fun _ _ => rfl)) pa_nil))))) pa_nil)))), fun c hp => ?_⟩
  obtain ⟨hg, hl⟩ := hp
  show Eo [some (encD c), none] _ _
  refine' eo_ret (Ed.is (ed_tupOf (ed_lcf (l := c) (enc := fun x => .int x.1) (f := encL) (p := fun x => decide (x.2 > 0)) (ei_list (ed_sortedD (ed_var rfl) hg hl)) ?k1_35 ?k2_35)) rfl)
  case k1_35 =>
    intro x hx
    have e := lk_mem (w := x.1) (m := x.2) hg.nd hx
    exact ⟨_, _, eg_name, by decide, et_test (ed_gt (ed_dget (ed_var rfl) (ed_var rfl) e) ed_int), fun _ => ⟨rfl, ed_tup (ea_cons (ed_var rfl) (ea_cons (ed_dget (ed_var rfl) (ed_var rfl) e) ea_nil)) (Nat.le_of_ble_eq_true rfl)⟩⟩
  case k2_35 => omega
abbrev spTake : Sp := spD (fun a : Pile × Pile => [encP a.1, encP a.2]) (fun a => PB a.1 ∧ Grow a.1 ∧ a.1.length < 64 ∧ Sub a.1 a.2) fun a => encP (takeL a.1 a.2)
abbrev s_take_by : Stmt := topS 12
abbrev n_take_by : List Str := ["pile", "other", "counts", "worth", "many"]
theorem sc_take_by : FnScope n_take_by ["pile", "other"] (defScope s_take_by) := ⟨rfl, rfl, rfl, by decide +kernel, rfl, by decide +kernel, by decide +kernel⟩
theorem oktake_by (D : Dfn K mg "take_by" s_take_by ["pile", "other"]) (Z : Bi mg) (Cfrom_counts : Cal P w K mg base "from_counts" 1 spFromC) : Cal P w K mg base "take_by" 2 spTake := by
  refine D.cal fun f fd F => def_ok F sc_take_by (fun _ => rfl) fun cdv A outer s H E hr => ?_
  refine ⟨_, (pss_cons (ps_set (i := 2) sc_take_by.nd rfl (Or.inl rfl) (pe_callTy (call_dictT rfl) rfl Z.dict bt_dict (pa_cons (pv 0) pa_nil)))
    (pss_cons (ps_for PassesOwn.never rfl (pi_tup (pv 1)) (pg_tup rfl (pgs_cons (pg_name (i := 3) sc_take_by.nd rfl (Or.inl rfl)) (pgs_cons (pg_name (i := 4) sc_take_by.nd rfl (Or.inl rfl)) pgs_nil)))
      (pss_cons (ps_if (pt_cmpR op_lt (pe_dget2 (Nat.lt_trans (Nat.add_lt_add_left (by decide : 1 < 64) _) hr.units) (pv 2) (pv 3) pe_int ⟨rfl, rfl, rfl, rfl⟩) (pv 4) (nomark _)) (pss_one ps_never) pss_nil)
    (pss_one (ps_daug (Nat.lt_trans (Nat.add_lt_add_left (by decide : 1 < 64) _) hr.units) (pv 2) (pv 3) (pv 4) in_sub (fun _ _ _ => rfl)))))
    (pss_one (ps_ret (pe_cal Cfrom_counts (hr.mono (by omega)) rfl (pa_cons (pv 2) pa_nil)))))), fun a hp => ?_⟩
  obtain ⟨p, q⟩ := a
  obtain ⟨hp, hg, hl, hs⟩ := hp
  simp only at hp hg hl hs
  show Eo [some (encP p), some (encP q), none, none, none] _ _
  have e0 : (p.map fun x => (x.1, x.2 - cnt (q.take 0) x.1)) = p := by
    rw [List.take_zero]
    refine (List.map_congr_left fun x _ => ?_).trans (List.map_id p)
    show (x.1, x.2 - 0) = x
    rw [Int.sub_zero]
  refine eo_ownD (c := p.map fun x => (x.1, x.2 - cnt (q.take 0) x.1)) ?_ (Nat.le_of_ble_eq_true rfl) (eow_for (ds := q.map encL) crD (fun i => [some (encP p), some (encP q), none, none, none]) (fun i => p.map fun x => (x.1, x.2 - cnt (q.take i) x.1)) (eiw_tup rfl) ?_ ?_) ?_
  · rw [e0]
    exact edf_dict (ed_var rfl) hg.nd
  · exact le_of ⟨rfl, rfl, trivial⟩
  · intro i d hd2
    rw [List.getElem?_map] at hd2
    cases er : q[i]? with
    | none => rw [er] at hd2; cases hd2
    | some x =>
      rw [er] at hd2
      cases hd2
      obtain ⟨v, m⟩ := x
      obtain ⟨M, hm, h1, h2⟩ := hs.at_ _ (List.mem_of_getElem? er)
      simp only at hm h1 h2
      have nk := grow_notin hs.grow er
      simp only at nk
      have c0 := cnt_no nk
      have lv : lk (p.map fun x => (x.1, x.2 - cnt (q.take i) x.1)) v = some M := by
        refine lk_mem ?_ (List.mem_map.mpr ⟨(v, M), hm, ?_⟩)
        · rw [List.map_map]
          exact hg.nd
        · simp only [c0, Int.sub_zero]
      refine ⟨_, _, eg_tup (egs_cons eg_name (egs_cons eg_name egs_nil)) rfl, by decide, (noJ0.set (js' := [3]) rfl (by simp)).set rfl (by intro j; simp [or_comm]), ?_⟩
      refine eow_seq (eow_if (b := false) crD (EtW.is (etw_test (Ed.wd (ed_lt (ed_dget2 (ed_var rfl) (ed_var rfl)) (ed_var rfl)))) ?_) (fun z => nomatch z) fun _ => eow_next) (Eow.less (Eow.is (eow_daug (ed_var rfl) (ed_var rfl) lv ?_) ?_) ?_)
      · rw [cnt_lk, lv]
        exact decide_eq_false (by show ¬ M < m; omega)
      · rw [List.length_map]
        omega
      · unfold putI
        rw [List.map_map]
        have et : q.take (i + 1) = q.take i ++ [(v, m)] := by rw [List.take_add_one, er]; rfl
        rw [et]
        refine List.map_congr_left fun y hy => ?_
        show (if y.1 = v then (y.1, M - m) else (y.1, y.2 - cnt (q.take i) y.1)) = _
        rw [cnt_snoc nk]
        by_cases e : y.1 = v
        · rw [if_pos e, if_pos e]
          have e2 : lk p v = some y.2 := lk_mem hg.nd (by rw [← e]; exact hy)
          have e3 : lk p v = some M := lk_mem hg.nd hm
          rw [e2] at e3
          cases e3
          rfl
        · rw [if_neg e, if_neg e]
      · exact le_of ⟨rfl, rfl, trivial⟩
  · refine eo_ret (Ed.is (ed_call (p.map fun x => (x.1, x.2 - cnt q x.1)) (ea_cons (ed_var ?_) ea_nil) ⟨hg.map _, by rw [List.length_map]; exact hl⟩) rfl)
    rw [List.length_map, List.take_length]
    rfl
end
end K27
end
section
set_option Elab.async false
set_option linter.all false
set_option maxRecDepth 100000
set_option maxHeartbeats 1000000
namespace K27
open PySem PySem.Spec PyProof.Rows L2

local macro_rules | `(tactic| walk_at "ed") => `(tactic| first
  | exact ed_var rfl | exact ed_int | exact ed_str | exact ed_non | exact ed_bl
  | (apply ed_ixT <;> first | rfl | walk_at "ed")
  | (apply ed_add <;> walk_at "ed")
  | (apply ed_sub <;> walk_at "ed")
  | (apply ed_min2 <;> walk_at "ed")
  | (apply ed_max2 <;> walk_at "ed")
  | (apply ed_eqS <;> walk_at "ed")
  | (apply ed_neS <;> walk_at "ed")
  | (apply ed_isN <;> walk_at "ed")
  | (apply ed_notN <;> walk_at "ed")
  | (apply ed_lt <;> walk_at "ed")
  | (apply ed_le <;> walk_at "ed")
  | (apply ed_gt <;> walk_at "ed")
  | (apply ed_ge <;> walk_at "ed")
  | (apply ed_mul <;> first | walk_at "ed" | skip)
  | (apply ed_in2 <;> walk_at "ed")
  | (apply ed_tup <;> first | (show EdA _ _ _; walk_at "ea") | (simp only [List.length_cons, List.length_nil]; decide) | skip)
  | (apply ed_lst <;> first | (show EdA _ _ _; walk_at "ea") | (simp only [List.length_cons, List.length_nil]; decide) | skip)
  | skip)
local macro_rules | `(tactic| walk_at "ea") => `(tactic| first
  | exact ea_nil
  | (apply ea_cons <;> first | (show EdA _ _ _; walk_at "ea") | walk_at "ed"))
local macro_rules | `(tactic| walk_at "set") => `(tactic| (refine' eo_seq (eo_set ?kz1) ?kz2; (case kz1 => walk_at "ed")))
local macro_rules | `(tactic| walk_at "et") => `(tactic| first
  | (refine' et_test ?kz1; (case kz1 => walk_at "ed"))
  | (refine' et_B ?kz1; (case kz1 => walk_at "ed"))
  | skip)
local macro_rules | `(tactic| walk_at "F") => `(tactic| (refine' eo_seq (eo_ifF (Et.is (et_test ?kz1) ?kz2) eo_next) ?kz3; (case kz1 => walk_at "ed"); (case kz2 => decide)))
local macro_rules | `(tactic| walk_at "T") => `(tactic| (refine' eo_ret1 (eo_ifT (Et.is (et_test ?kz1) ?kz2) (eo_ret ?kz3)); (case kz1 => walk_at "ed"); (case kz2 => decide)))
local macro_rules | `(tactic| walk_at "TB") => `(tactic| (refine' eo_ret1 (eo_ifT (Et.is (et_test ?kz1) ?kz2) ?kz3); (case kz1 => walk_at "ed"); (case kz2 => decide)))

/-! ### unsafe, one worth at a time -/
def dueOf (p : Pile) (a w : Int) : Option Int := if w > 1 then listSum p a w else none
def unsF (p : Pile) (a : Int) (left : Pile) (x : Int × Int) : Option (Int × Int) := match dueOf p a x.1 with
  | none => none
  | some due => if lessOf left x.1 < due then some (x.1, due) else none
theorem unsF_eq (p : Pile) (a : Int) (left : Pile) : unsafeAt p a left = left.filterMap (unsF p a left) := by
  unfold unsafeAt
  congr 1
  funext x
  unfold unsF dueOf
  by_cases h : x.1 > 1
  · rw [if_pos h, if_pos h]
    all_goals (cases listSum p a x.fst <;> rfl)
  · rw [if_neg h, if_neg h]
theorem atI0 {d : PD} {ds : List PD} : atI (d :: ds) 0 = some d := by
  show ((ixN (ds.length + 1) ((0 : Nat) : Int)).bind fun j => (d :: ds)[j]?) = _
  rw [ixN_nat (Nat.succ_pos _)]
  rfl
theorem encR_all (rs : List (Rt Str)) : encR (.all rs) = .tuple [.str "all", .tuple (rs.map encR)] := by rw [encR, encRs_map]
abbrev bcL : List Str := ["b", "c"]
theorem noL_encO : ∀ o : Option Int, noL (encO o) = true
  | none => rfl
  | some _ => rfl
theorem isNone_encO : ∀ o : Option Int, isNone (encO o) = o.isNone
  | none => rfl
  | some _ => rfl
theorem noLAll_encL : ∀ l : List (Int × Int), noLAll (l.map encL) = true
  | [] => rfl
  | x :: l => by
    rw [List.map_cons]
    simp only [noLAll, noLAll_encL l, Bool.and_true]
    rfl
theorem noD_encL : ∀ l : List (Int × Int), noDAll (l.map encL) = true
  | [] => rfl
  | x :: l => by
    rw [List.map_cons]
    simp only [noDAll, noD_encL l, Bool.and_true]
    rfl
theorem lay_encL : ∀ l : List (Int × Int), PyData.canLayAll0 (l.map encL) = true ∧ PyData.depthAll (l.map encL) ≤ 2
  | [] => ⟨rfl, by decide⟩
  | x :: l => by
    obtain ⟨h1, h2⟩ := lay_encL l
    refine ⟨?_, ?_⟩
    · rw [List.map_cons]
      simp only [PyData.canLayAll0, h1, Bool.and_true]
      rfl
    · rw [List.map_cons]
      simp only [PyData.depthAll]
      have : PyData.depth (encL x) ≤ 2 := by
        unfold encL
        simp only [PyData.depth, PyData.depthAll]
        decide
      omega
theorem shaped_encP (p : Pile) : SeqAt.shaped (encP p) = true := by
  obtain ⟨h1, h2⟩ := lay_encL p
  unfold SeqAt.shaped encP
  rw [Bool.and_eq_true]
  refine ⟨?_, decide_eq_true ?_⟩
  · simp only [PyData.canLay0]
    exact h1
  · simp only [PyData.depth]
    omega
theorem noD_encP (p : Pile) : noD (encP p) = true := by
  unfold encP
  simp only [noD]
  exact noD_encL p
/-! a def that gives a new list -/
def spDF {α : Type} (enc : α → List PD) (pre : α → Prop) (out : α → PD) : Sp := fun vs H Q _ => ∃ a, DvAll H vs (enc a) ∧ pre a ∧ ∀ p H', Same H H' → H p = none → Dv H' (.ref p) (out a) → Q (.ref p) H'
def EdN (ρ : En) (te : TE) (d : PD) : Prop := ∀ (σ : L2.St) (H : Hp) (Q : VK), Sg H σ ρ → (∀ p H', Same H H' → H p = none → Dv H' (.ref p) d → Q (.ref p) H') → te σ H Q
def EoN (ρ : En) (t : TS) (d : PD) : Prop := ∀ (D : Ends) (σ : L2.St) (H : Hp), Sg H σ ρ → (∀ p H', Same H H' → H p = none → Dv H' (.ref p) d → D.rt (.ref p) H') → t D σ H
theorem free_back {H H' : Hp} {p : Addr} (e : Same H H') (h : H' p = none) : H p = none := by
  cases z : H p with
  | none => rfl
  | some o =>
    rw [e _ _ z] at h
    cases h
section
variable {ρ ρ1 : En} {ta tb te : TE} {t u : TS} {d : PD}
theorem edn_cat {ds es : List PD} (ha : Ed ρ ta (.list ds)) (hb : Ed ρ tb (.list es)) (hz : ds.length + es.length ≤ 1000000) : EdN ρ (tOp rCat ta tb) (.list (ds ++ es)) := fun σ H Q s q =>
  ha σ H _ s fun x H1 e1 g1 => hb σ H1 _ (s.mono e1) fun y H2 e2 g2 => by
    obtain ⟨a, xs, rfl, h1, h2⟩ := (g1.mono e2).of_lst
    obtain ⟨b, ys, rfl, h3, h4⟩ := g2.of_lst
    exact ⟨a, b, xs, ys, rfl, rfl, h1, h3, by rw [h2.length, h4.length]; exact sizes hz, fun p hp => q p _ ((e1.trans e2).trans (Same.new hp)) (free_back (e1.trans e2) hp) (.lst upd_same ((h2.append h4).mono (Same.new hp)))⟩
theorem eon_ret (h : EdN ρ te d) : EoN ρ (tRet te) d := fun D σ H s q => h σ H _ s q
theorem eon_seq (h1 : Eo ρ t (.go ρ1)) (h2 : EoN ρ1 u d) : EoN ρ (tSeq t u) d := fun D σ H s q => h1 { D with nx := u D } σ H s fun σ' H' e s' => h2 D σ' H' s' fun p H2 e2 hp hd => q p H2 (e.trans e2) (free_back e hp) hd
theorem EdN.is {d e : PD} (h : EdN ρ te d) (q : d = e) : EdN ρ te e := q ▸ h
theorem def_okF {P : Program} {w : World} {K : PySem.W.Frag} {mg : Str → Option Value} {base : Heap} {α : Type} {x qual : Str} {st : Stmt} {f : Addr} {fd : FuncData} {N ps : List Str} {k : Nat} {enc : α → List PD} {pre : α → Prop} {out : α → PD} (F : Fun K x qual st f fd) (S : FnScope N ps (defScope st)) (hl : ∀ a, (enc a).length = ps.length)
    (hb : ∀ (cdv : Value) (A : Around) (outer : List PySem.Env) (s : Shared) (H : Hp) (E : XK), Room k (A.deeper (envOfC qual (defScope st) s.heap.objs.size f cdv)) →
      ∃ t, PSs (cxOf CX0 P w K mg base N qual (defScope st) f cdv A outer s H E).nox (defBody st) t ∧ ∀ a, pre a → EoN (startE N (enc a)) t (out a)) : FnOk P w K mg base CX0 (k + 1) f fd ps (spDF enc pre out) := by
  refine F.ok S (fun vs H Q E h => ?_) (fun cdv A outer s H vs Q E hr h => ?_)
  · obtain ⟨a, h1, _⟩ := h
    rw [h1.length, hl]
  · obtain ⟨a, h1, h2, h3⟩ := h
    obtain ⟨t, h4, h5⟩ := hb cdv A outer s H E hr
    exact ⟨t, h4, h5 a h2 _ _ H (start_sg h1) fun p H' e hp hd => h3 p H' e hp hd⟩
/-- zip of a text and of such a new list, while something is written -/
theorem eiw_zzS {α β : Type} {C : Hp → HO → α → Prop} {k : Nat} {c : α} {K : PySem.W.Frag} {z : Str} {es : List PD} {tl : TA} {enc : β → List PD} {pre : β → Prop} {out : β → PD} {E : XK} (R : CR C) (b : β) (h : EdA ρ tl (enc b)) (hp : pre b) (ho : out b = .list es) (hn : noLAll es = true) :
    EiW C k ρ c (iZz K (tCons (tC (.str z)) (tCons (tCall (spDF enc pre out) [] E tl) tNil))) (List.zipWith (fun d e => .tuple [d, e]) (z.cps.toList.map fun c => .str ⟨#[c]⟩) es) := fun σ H l R' s hk ow q =>
  h σ H _ (s.mono (er_le H l)) fun vs H1 e1 h1 => ⟨b, by rw [List.append_nil]; exact h1, hp, fun p H2 e2 hpn hd => by
    have ow1 := ow.mono R e1
    have ow2 := ow1.mono R e2
    have hpl : p ≠ l := fun e => by
      obtain ⟨o, ho, _⟩ := ow1.ex
      rw [← e, hpn] at ho
      cases ho
    rw [ho] at hd
    obtain ⟨a, ys, ea, t2, k2⟩ := hd.of_lst
    cases ea
    have t3 : er H2 l p = some (.lst ys) := by
      unfold er
      rw [if_neg hpl]
      exact t2
    exact ⟨.txt z, .lst p, signs z, ys, rfl, rfl, SqL.of t2, q _ H2 (e1.trans e2) (wk_zz (a := .txt z) (b := .lst p) (fun H' e => rfl) (fun H' e => SqL.of (e _ _ t3)) (signs_dv z) (k2.imm (er_imm (ow2.nf R)) hn))⟩⟩
end
theorem evCalls_zip {N : Type} : ∀ (ns : List N) (xs : List (Int × Int)), evCalls ns xs = (List.zip ns xs).map fun x => Rt.call x.1 x.2.1 x.2.2
  | [], _ => rfl
  | _ :: _, [] => rfl
  | n :: ns, x :: xs => by
    rw [evCalls, evCalls_zip ns xs]
    rfl
section
variable {P : Program} {w : World} {K : PySem.W.Frag} {mg : Str → Option Value} {base : Heap}
structure PQ (a : Pile × Pile) : Prop where
  pb : PB a.1
  grow : Grow a.1
  len : a.1.length < 64
  sub : Sub a.1 a.2
abbrev unsA (a : Pile × Pile) : List (Int × Int) := unsafeAt a.1 (sumOf a.2) (takeL a.1 a.2)
abbrev spUnsafe : Sp := spD (fun a : Pile × Pile => [encP a.1, encP a.2]) PQ fun a => encQ (unsA a)
abbrev s_unsafe_at : Stmt := topS 18
abbrev n_unsafe_at : List Str := ["pile", "paying", "left", "amount", "found", "worth", "many", "due"]
theorem sc_unsafe_at : FnScope n_unsafe_at ["pile", "paying"] (defScope s_unsafe_at) := ⟨rfl, rfl, rfl, by decide +kernel, rfl, by decide +kernel, by decide +kernel⟩
theorem okunsafe_at (D : Dfn K mg "unsafe_at" s_unsafe_at ["pile", "paying"]) (Z : Bi mg) (Ctake_by : Cal P w K mg base "take_by" 2 spTake) (Csum_of : Cal P w K mg base "sum_of" 1 spSum) (Clist_sum : Cal P w K mg base "list_sum" 3 spLSum) (Cless_of : Cal P w K mg base "less_of" 1 spUnder) : Cal P w K mg base "unsafe_at" 4 spUnsafe := by
  refine D.cal fun f fd F => def_ok F sc_unsafe_at (fun _ => rfl) fun cdv A outer s H E hr => ?_
  refine ⟨_, (pss_cons (ps_set (i := 2) sc_unsafe_at.nd rfl (Or.inl rfl) (pe_cal Ctake_by (hr.mono (by omega)) rfl (pa_cons (pv 0) (pa_cons (pv 1) pa_nil))))
    (pss_cons (ps_set (i := 3) sc_unsafe_at.nd rfl (Or.inl rfl) (pe_cal Csum_of (hr.mono (by omega)) rfl (pa_cons (pv 1) pa_nil)))
    (pss_cons (ps_set (i := 4) sc_unsafe_at.nd rfl (Or.inl rfl) (pe_lst pa_nil))
    (pss_cons (ps_for PassesOwn.never rfl (pi_tup (pv 2)) (pg_tup rfl (pgs_cons (pg_name (i := 5) sc_unsafe_at.nd rfl (Or.inl rfl)) (pgs_cons (pg_name (i := 6) sc_unsafe_at.nd rfl (Or.inl rfl)) pgs_nil)))
      (pss_cons (ps_set (i := 7) sc_unsafe_at.nd rfl (Or.inl rfl) (pe_ifExp (pt_cmpR op_gt (pv 5) pe_int (nomark _)) (pe_cal Clist_sum (hr.mono (by omega)) rfl (pa_cons (pv 0) (pa_cons (pv 3) (pa_cons (pv 5) pa_nil)))) pe_non))
    (pss_one (ps_if (PW.pt (pw_and (pt_cmpR op_notN (pv 7) pe_non (nomark _)) (pw_and1 (pt_cmpR op_lt (pe_cal Cless_of (hr.mono (by omega)) rfl (pa_cons (pv 2) (pa_cons (pv 5) pa_nil))) (pv 7) (nomark _))))) (pss_one (ps_expr (pe_bm PySem.F.plainAttrs_list PySem.F.slot_list_append PySem.F.type_list_append mt_append (pv 4) (pa_cons (pe_tupF (pa_cons (pv 5) (pa_cons (pv 7) pa_nil))) pa_nil)))) pss_nil))))
    (pss_one (ps_ret (pv 4))))))), fun a hp => ?_⟩
  obtain ⟨p, q⟩ := a
  obtain ⟨hp, hg, hl, hs⟩ := hp
  simp only at hp hg hl hs
  have hq := hs.pb hp
  have ht := take_pb hp hs
  show Eo [some (encP p), some (encP q), none, none, none, none, none, none] _ (.rt (encQ (unsafeAt p (sumOf q) (takeL p q))))
  rw [unsF_eq]
  refine eo_seq (eo_set (ed_call (p, q) (ea_cons (ed_var rfl) (ea_cons (ed_var rfl) ea_nil)) ⟨hp, hg, hl, hs⟩)) (eo_seq (eo_set (ed_call q (ea_cons (ed_var rfl) ea_nil) hq)) ?_)
  show Eo [some (encP p), some (encP q), some (encP (takeL p q)), some (.int (sumOf q)), none, none, none, none] _ _
  generalize takeL p q = L at ht
  refine eo_own (ds := ((L.take 0).filterMap (unsF p (sumOf q) L)).map encL) (edf_lst ea_nil (Nat.zero_le _)) rfl (Nat.le_of_ble_eq_true rfl) (eow_for (ds := L.map encL) crL (fun i => [some (encP p), some (encP q), some (encP L), some (.int (sumOf q)), none, none, none, none]) (fun i => ((L.take i).filterMap (unsF p (sumOf q) L)).map encL) (eiw_tup rfl) ?_ ?_) ?_
  · exact le_of ⟨rfl, rfl, rfl, rfl, trivial⟩
  · intro i d hd2
    rw [List.getElem?_map] at hd2
    cases er : L[i]? with
    | none => rw [er] at hd2; cases hd2
    | some x =>
      rw [er] at hd2
      cases hd2
      have hx := ht.at_ _ (List.mem_of_getElem? er)
      have hlen := ht.len
      have et : L.take (i + 1) = L.take i ++ [x] := by rw [List.take_add_one, er]; rfl
      have hfl : (((L.take i).filterMap (unsF p (sumOf q) L)).map encL).length < 1000000 := by
        rw [List.length_map]
        refine Nat.lt_of_le_of_lt (List.length_filterMap_le ..) ?_
        rw [List.length_take]
        omega
      refine ⟨_, _, eg_tup (egs_cons eg_name (egs_cons eg_name egs_nil)) rfl, by decide, (noJ0.set (js' := [5]) rfl (by simp)).set rfl (by intro j; simp [or_comm]), ?_⟩
      refine eow_seq (eow_set crL (Ed.w (d := encO (dueOf p (sumOf q) x.1)) ?_) (noL_encO _) (by decide)) ?_
      · unfold dueOf
        by_cases h : x.1 > 1
        · rw [if_pos h]
          exact ed_ifT (Et.is (et_test (ed_gt (ed_var rfl) ed_int)) (decide_eq_true h)) (ed_call (p, sumOf q, x.1) (ea_cons (ed_var rfl) (ea_cons (ed_var rfl) (ea_cons (ed_var rfl) ea_nil))) ⟨hp, by show 2 ≤ x.1; omega, hx.2.1⟩)
        · rw [if_neg h]
          exact ed_ifF (Et.is (et_test (ed_gt (ed_var rfl) ed_int)) (decide_eq_false h)) ed_non
      · cases hdue : dueOf p (sumOf q) x.1 with
        | none =>
          have ex : ((L.take (i + 1)).filterMap (unsF p (sumOf q) L)).map encL = ((L.take i).filterMap (unsF p (sumOf q) L)).map encL := by
            rw [et, List.filterMap_append]
            simp [unsF, hdue]
          rw [ex]
          refine Eow.less (eow_if (b := false) crL (Et.w (Et.is (et_and (a := false) (b := true) (et_test (Ed.is (ed_notN (ed_var rfl)) rfl)) fun z => nomatch z) rfl)) (fun z => nomatch z) fun _ => eow_next) (le_of ⟨rfl, rfl, rfl, rfl, trivial⟩)
        | some due =>
          have tst : ∀ {ρ : En}, ρ[7]? = some (some (encO (some due))) → ρ[2]? = some (some (encP L)) → ρ[5]? = some (some (.int x.1)) → Et ρ (tAnd (tTest (tOp (fun x y H Q => y = .non ∧ Q (.bl (!decide (x = .non))) H) (tVar 7) (tC .non))) (tTest (tOp (rI0 fun i j => .bl (decide (i < j))) (tCall spUnder [] E0 (tCons (tVar 2) (tCons (tVar 5) tNil))) (tVar 7)))) (decide (lessOf L x.1 < due)) := fun h7 h2 h5 =>
            Et.is (et_and (a := true) (et_test (Ed.is (ed_notN (ed_var h7)) rfl)) fun _ => et_test (ed_lt (ed_call (L, x.1) (ea_cons (ed_var h2) (ea_cons (ed_var h5) ea_nil)) ht) (ed_var h7))) (Bool.true_and _)
          by_cases hlt : lessOf L x.1 < due
          · have ex : ((L.take (i + 1)).filterMap (unsF p (sumOf q) L)).map encL = ((L.take i).filterMap (unsF p (sumOf q) L)).map encL ++ [.tuple [.int x.1, .int due]] := by
              rw [et, List.filterMap_append, List.map_append]
              congr 1
              simp [unsF, hdue, hlt]
            rw [ex]
            refine Eow.less (eow_if (b := true) crL (Et.w (Et.is (tst rfl rfl rfl) (decide_eq_true hlt))) (fun _ => eow_append (Ed.w (ed_tup (ea_cons (ed_var rfl) (ea_cons (ed_var rfl) ea_nil)) (Nat.le_of_ble_eq_true rfl))) rfl hfl) fun z => nomatch z) (le_of ⟨rfl, rfl, rfl, rfl, trivial⟩)
          · have ex : ((L.take (i + 1)).filterMap (unsF p (sumOf q) L)).map encL = ((L.take i).filterMap (unsF p (sumOf q) L)).map encL := by
              rw [et, List.filterMap_append]
              simp [unsF, hdue, hlt]
            rw [ex]
            refine Eow.less (eow_if (b := false) crL (Et.w (Et.is (tst rfl rfl rfl) (decide_eq_false hlt))) (fun z => nomatch z) fun _ => eow_next) (le_of ⟨rfl, rfl, rfl, rfl, trivial⟩)
  · refine eo_ret (Ed.is (ed_var rfl) ?_)
    rw [List.length_map, List.take_length]
    rfl
structure PQ1 (a : Pile × Pile) : Prop where
  pq : PQ a
  ne : a.2 ≠ []
abbrev spLookP : Sp := spD (fun a : Pile × Pile => [encP a.1, encP a.2]) PQ1 fun _ => .none
abbrev s_look_at_paying : Stmt := topS 19
abbrev n_look_at_paying : List Str := ["pile", "paying"]
theorem sc_look_at_paying : FnScope n_look_at_paying ["pile", "paying"] (defScope s_look_at_paying) := ⟨rfl, rfl, rfl, by decide +kernel, rfl, by decide +kernel, by decide +kernel⟩
theorem oklook_at_paying (D : Dfn K mg "look_at_paying" s_look_at_paying ["pile", "paying"]) (Z : Bi mg) (Clook_at_pile : Cal P w K mg base "look_at_pile" 4 spLook) : Cal P w K mg base "look_at_paying" 5 spLookP := by
  refine D.cal fun f fd F => def_okN F sc_look_at_paying (fun _ => rfl) fun cdv A outer s H E hr => ?_
  refine ⟨_, (pss_cons (ps_expr (pe_cal Clook_at_pile (hr.mono (by omega)) rfl (pa_cons (pv 0) pa_nil)))
    (pss_cons (ps_expr (pe_cal Clook_at_pile (hr.mono (by omega)) rfl (pa_cons (pv 1) pa_nil)))
    (pss_one (ps_if (pt_cmpR (op_eqD hr.units) (pv 1) (pe_tupF pa_nil) (nomark _)) (pss_one ps_never) pss_nil)))), fun a hp => ⟨[some (encP a.1), some (encP a.2)], ?_⟩⟩
  obtain ⟨p, q⟩ := a
  obtain ⟨⟨hp, hg, hl, hs⟩, hne⟩ := hp
  simp only at hp hg hl hs hne
  show Eo [some (encP p), some (encP q)] _ _
  refine eo_seq (eo_drop (ed_call p (ea_cons (ed_var rfl) ea_nil) ⟨hp, hg⟩)) (eo_seq (eo_drop (ed_call q (ea_cons (ed_var rfl) ea_nil) ⟨hs.pb hp, hs.grow⟩)) (eo_ifF (Et.is (et_test (ed_eqD (ed_var rfl) (ed_tup ea_nil (Nat.zero_le _)) (shaped_encP q) (shaped_encP []) (noD_encP q) rfl)) ?_) eo_next))
  cases q with
  | nil => exact absurd rfl hne
  | cons x r => rfl
abbrev spSafe : Sp := spD (fun a : Pile × Pile => [encP a.1, encP a.2]) PQ1 fun a => .bool (unsA a).isEmpty
abbrev s_is_safe : Stmt := topS 20
abbrev n_is_safe : List Str := ["pile", "paying"]
theorem sc_is_safe : FnScope n_is_safe ["pile", "paying"] (defScope s_is_safe) := ⟨rfl, rfl, rfl, by decide +kernel, rfl, by decide +kernel, by decide +kernel⟩
theorem okis_safe (D : Dfn K mg "is_safe" s_is_safe ["pile", "paying"]) (Z : Bi mg) (Clook_at_paying : Cal P w K mg base "look_at_paying" 5 spLookP) (Cunsafe_at : Cal P w K mg base "unsafe_at" 4 spUnsafe) : Cal P w K mg base "is_safe" 6 spSafe := by
  refine D.cal fun f fd F => def_ok F sc_is_safe (fun _ => rfl) fun cdv A outer s H E hr => ?_
  refine ⟨_, (pss_cons (ps_expr (pe_cal Clook_at_paying (hr.mono (by omega)) rfl (pa_cons (pv 0) (pa_cons (pv 1) pa_nil))))
    (pss_one (ps_ret (pe_cmpR op_eq (pe_callB call_len_seq rfl Z.len bt_len (pa_cons (pe_cal Cunsafe_at (hr.mono (by omega)) rfl (pa_cons (pv 0) (pa_cons (pv 1) pa_nil))) pa_nil)) pe_int (nomark _))))), fun a hp => ?_⟩
  show Eo [some (encP a.1), some (encP a.2)] _ _
  refine eo_seq (eo_drop (ed_call a (ea_cons (ed_var rfl) (ea_cons (ed_var rfl) ea_nil)) hp)) (eo_ret (Ed.is (ed_eqI (ed_lenL (ed_call a (ea_cons (ed_var rfl) (ea_cons (ed_var rfl) ea_nil)) hp.pq)) ed_int) ?_))
  rw [List.length_map]
  cases unsA a <;> rfl
/-! ### the telling call -/
abbrev spEvenF : Sp := spDF (fun a : Int × Int => [.int a.1, .int a.2]) (fun a => 2 ≤ a.1 ∧ a.1 ≤ 1000000 ∧ 0 ≤ a.2) fun a => encQ (evens a.1 a.2)
theorem okeven_listF (D : Dfn K mg "even_list" s_even_list ["below", "total"]) (Z : Bi mg) : Cal P w K mg base "even_list" 1 spEvenF := by
  refine D.cal fun f fd F => def_okF F sc_even_list (fun _ => rfl) fun cdv A outer s H E hr => ?_
  refine ⟨_, (pss_cons (ps_if (pt_cmpR op_isN (pv 0) pe_non (nomark _)) (pss_one (ps_ret (pe_op op_rep (pe_lst (pa_cons (pe_tupF (pa_cons (pv 1) (pa_cons pe_int pa_nil))) pa_nil)) (pe_callTy call_int1 rfl Z.int bt_int (pa_cons (pe_cmpR op_gt (pv 1) pe_int (nomark _)) pa_nil))))) pss_nil)
    (pss_cons (ps_asg (pe_callB call_divmod rfl Z.divmod bt_divmod (pa_cons (pv 1) (pa_cons (pe_op op_sub (pv 0) pe_int) pa_nil))) (pg_tup rfl (pgs_cons (pg_name (i := 2) sc_even_list.nd rfl (Or.inl rfl)) (pgs_cons (pg_name (i := 3) sc_even_list.nd rfl (Or.inl rfl)) pgs_nil))))
    (pss_one (ps_ret (pe_op op_cat (pe_op op_rep (pe_lst (pa_cons (pe_tupF (pa_cons (pe_op op_sub (pv 0) pe_int) (pa_cons (pv 2) pa_nil))) pa_nil)) (pe_callTy call_int1 rfl Z.int bt_int (pa_cons (pe_cmpR op_gt (pv 2) pe_int (nomark _)) pa_nil))) (pe_op op_rep (pe_lst (pa_cons (pe_tupF (pa_cons (pv 3) (pa_cons pe_int pa_nil))) pa_nil)) (pe_callTy call_int1 rfl Z.int bt_int (pa_cons (pe_cmpR op_gt (pv 3) pe_int (nomark _)) pa_nil)))))))), fun a hp => ?_⟩
  obtain ⟨c, t⟩ := a
  obtain ⟨h1, h2, h3⟩ := hp
  simp only at h1 h2 h3
  show EoN [some (.int c), some (.int t), none, none] _ (encQ (evens c t))
  refine' eon_seq (eo_ifF (Et.is (et_test (ed_isN (ed_var rfl))) rfl) eo_next) (eon_seq (eo_divmod (ed_var rfl) (ed_sub (ed_var rfl) ed_int) ?k1_24) (eon_ret (EdN.is (edn_cat (ed_rep (ed_lst (ea_cons (ed_tup (ea_cons (ed_sub (ed_var rfl) ed_int) (ea_cons (ed_var rfl) ea_nil)) (Nat.le_of_ble_eq_true rfl)) ea_nil) (Nat.le_of_ble_eq_true rfl)) (ed_intB (ed_gt (ed_var rfl) ed_int)) ?k2_24 ?k3_24 ?k4_24)
    (ed_rep (ed_lst (ea_cons (ed_tup (ea_cons (ed_var rfl) (ea_cons ed_int ea_nil)) (Nat.le_of_ble_eq_true rfl)) ea_nil) (Nat.le_of_ble_eq_true rfl)) (ed_intB (ed_gt (ed_var rfl) ed_int)) ?k5_24 ?k6_24 ?k7_24) ?k8_24) ?k9_24)))
  case k1_24 => exact ⟨by omega, by omega⟩
  case k2_24 => split <;> omega
  case k3_24 => split <;> omega
  case k4_24 => show 1 * _ ≤ _; split <;> decide
  case k5_24 => split <;> omega
  case k6_24 => split <;> omega
  case k7_24 => show 1 * _ ≤ _; split <;> decide
  case k8_24 =>
    rw [rep_if rfl, rep_if rfl]
    refine Nat.le_trans (Nat.add_le_add (b := 1) (d := 1) ?_ ?_) (Nat.le_of_ble_eq_true rfl) <;> (split <;> exact Nat.le_of_ble_eq_true rfl)
  case k9_24 =>
    rw [rep_if rfl, rep_if rfl]
    unfold encQ evens
    by_cases q1 : 0 < t / (c - 1) <;> by_cases q2 : 0 < t % (c - 1)
    · rw [decide_eq_true q1, decide_eq_true q2, if_pos q1, if_pos q2]
      rfl
    · rw [decide_eq_true q1, decide_eq_false q2, if_pos q1, if_neg q2]
      rfl
    · rw [decide_eq_false q1, decide_eq_true q2, if_neg q1, if_pos q2]
      rfl
    · rw [decide_eq_false q1, decide_eq_false q2, if_neg q1, if_neg q2]
      rfl
def tellR (a : Pile × Pile) : Option (Rt Str) := match unsA a with
  | [] => none
  | x :: _ => some (told "a" "b" "c" (sumOf a.2) x.1 x.2)
abbrev spTell : Sp := spD (fun a : Pile × Pile => [encP a.1, encP a.2]) PQ1 fun a => optR (tellR a)
theorem bc_signs : ("bc" : Str).cps.toList.map (fun c => PyData.str ⟨#[c]⟩) = bcL.map PyData.str := by
  have h : ("bc" : Str).cps.toList.map (fun c => (⟨#[c]⟩ : Str)) = bcL := by decide +kernel
  rw [← h, List.map_map]
  rfl
abbrev s_telling_call : Stmt := topS 21
abbrev n_telling_call : List Str := ["pile", "paying", "found", "calls", "name", "greatest", "often"]
theorem sc_telling_call : FnScope n_telling_call ["pile", "paying"] (defScope s_telling_call) := ⟨rfl, rfl, rfl, by decide +kernel, rfl, by decide +kernel, by decide +kernel⟩
theorem oktelling_call (D : Dfn K mg "telling_call" s_telling_call ["pile", "paying"]) (Z : Bi mg) (Clook_at_paying : Cal P w K mg base "look_at_paying" 5 spLookP) (Cunsafe_at : Cal P w K mg base "unsafe_at" 4 spUnsafe) (Csum_of : Cal P w K mg base "sum_of" 1 spSum) (Ceven_list : Cal P w K mg base "even_list" 1 spEvenF) : Cal P w K mg base "telling_call" 6 spTell := by
  refine D.cal fun f fd F => def_ok F sc_telling_call (fun _ => rfl) fun cdv A outer s H E hr => ?_
  refine ⟨_, (pss_cons (ps_expr (pe_cal Clook_at_paying (hr.mono (by omega)) rfl (pa_cons (pv 0) (pa_cons (pv 1) pa_nil))))
    (pss_cons (ps_set (i := 2) sc_telling_call.nd rfl (Or.inl rfl) (pe_cal Cunsafe_at (hr.mono (by omega)) rfl (pa_cons (pv 0) (pa_cons (pv 1) pa_nil))))
    (pss_cons (ps_if (pt_cmpR op_eq (pe_callB call_len_seq rfl Z.len bt_len (pa_cons (pv 2) pa_nil)) pe_int (nomark _)) (pss_one (ps_ret pe_non)) pss_nil)
    (pss_cons (ps_set (i := 3) sc_telling_call.nd rfl (Or.inl rfl) (pe_lst (pa_cons (pe_tupF (pa_cons pe_str (pa_cons pe_str (pa_cons (pe_cal Csum_of (hr.mono (by omega)) rfl (pa_cons (pv 1) pa_nil)) (pa_cons pe_int pa_nil))))) pa_nil)))
    (pss_cons (ps_for PassesOwn.never rfl (pi_zz rfl Z.zip (pa_cons pe_str (pa_cons (pe_cal Ceven_list (hr.mono (by omega)) rfl (pa_cons (pe_ix ix_tup (pe_ix ix_list (pv 2) pe_int (fun _ _ => rfl)) pe_int (fun _ _ => rfl)) (pa_cons (pe_ix ix_tup (pe_ix ix_list (pv 2) pe_int (fun _ _ => rfl)) pe_int (fun _ _ => rfl)) pa_nil))) pa_nil))) (pg_tup rfl (pgs_cons (pg_name (i := 4) sc_telling_call.nd rfl (Or.inl rfl)) (pgs_cons (pg_tup rfl (pgs_cons (pg_name (i := 5) sc_telling_call.nd rfl (Or.inl rfl)) (pgs_cons (pg_name (i := 6) sc_telling_call.nd rfl (Or.inl rfl)) pgs_nil))) pgs_nil)))
      (pss_one (ps_expr (pe_bm PySem.F.plainAttrs_list PySem.F.slot_list_append PySem.F.type_list_append mt_append (pv 3) (pa_cons (pe_tupF (pa_cons pe_str (pa_cons (pv 4) (pa_cons (pv 5) (pa_cons (pv 6) pa_nil))))) pa_nil)))))
    (pss_one (ps_ret (pe_tupF (pa_cons pe_str (pa_cons (pe_callTy call_tupleF rfl Z.tuple bt_tuple (pa_cons (pv 3) pa_nil)) pa_nil)))))))))), fun a hp => ?_⟩
  have hq := hp.pq.sub.pb hp.pq.pb
  have ht := take_pb hp.pq.pb hp.pq.sub
  show Eo [some (encP a.1), some (encP a.2), none, none, none, none, none] _ (.rt (optR (tellR a)))
  refine eo_seq (eo_drop (ed_call a (ea_cons (ed_var rfl) (ea_cons (ed_var rfl) ea_nil)) hp)) (eo_seq (eo_set (ed_call a (ea_cons (ed_var rfl) (ea_cons (ed_var rfl) ea_nil)) hp.pq)) ?_)
  show Eo [some (encP a.1), some (encP a.2), some (encQ (unsA a)), none, none, none, none] _ _
  unfold tellR
  cases hu : unsA a with
  | nil => exact eo_ret1 (eo_ifT (Et.is (et_test (ed_eqI (ed_lenL (ed_var rfl)) ed_int)) rfl) (eo_ret ed_non))
  | cons x rest =>
    obtain ⟨c, due⟩ := x
    obtain ⟨m1, ⟨mm, m2⟩, m3, m4⟩ := unsafe_mem (show (c, due) ∈ unsafeAt a.1 (sumOf a.2) (takeL a.1 a.2) by rw [show unsafeAt a.1 (sumOf a.2) (takeL a.1 a.2) = _ from hu]; exact List.mem_cons_self ..)
    have hc := (ht.at_ _ m2).2.1
    have hd := lessOf_nn (c := c) fun x hx => ⟨(ht.at_ x hx).1, (ht.at_ x hx).2.2.1⟩
    refine eo_seq (eo_ifF (Et.is (et_test (ed_eqI (ed_lenL (ed_var rfl)) ed_int)) ?_) eo_next) ?_
    · refine decide_eq_false ?_
      show ((rest.map encL).length + 1 : Nat) ≠ (0 : Int)
      omega
    have zl : List.zipWith (fun d e => PyData.tuple [d, e]) (("bc" : Str).cps.toList.map fun c => .str ⟨#[c]⟩) ((evens c due).map encL) = (List.zip bcL (evens c due)).map fun (x : Str × Int × Int) => PyData.tuple [.str x.1, encL x.2] := by
      rw [bc_signs, List.zipWith_map, List.map_zip_eq_zipWith]
      rfl
    refine eo_own (ds := encR (.call "a" (sumOf a.2) 1) :: (((List.zip bcL (evens c due)).take 0).map fun x => encR (.call x.1 x.2.1 x.2.2))) (edf_lst (ea_cons (ed_tup (ea_cons ed_str (ea_cons ed_str (ea_cons (ed_call a.2 (ea_cons (ed_var rfl) ea_nil) hq) (ea_cons ed_int ea_nil)))) (Nat.le_of_ble_eq_true rfl)) ea_nil) (Nat.le_of_ble_eq_true rfl)) rfl (Nat.le_of_ble_eq_true rfl)
      (eow_for (ds := (List.zip bcL (evens c due)).map fun (x : Str × Int × Int) => PyData.tuple [.str x.1, encL x.2]) crL (fun i => [some (encP a.1), some (encP a.2), some (encQ ((c, due) :: rest)), none, none, none, none]) (fun i => encR (.call "a" (sumOf a.2) 1) :: (((List.zip bcL (evens c due)).take i).map fun x => encR (.call x.1 x.2.1 x.2.2))) (EiW.is (eiw_zzS crL (c, due) (es := (evens c due).map encL) ?_ ⟨m1, hc, by show 0 ≤ due; omega⟩ rfl (noLAll_encL _)) zl) ?_ ?_) ?_
    · exact ea_cons (ed_ixT (ds := [.int c, .int due]) (ed_ixL (ed_var rfl) ed_int atI0) ed_int rfl) (ea_cons (ed_ixT (ds := [.int c, .int due]) (ed_ixL (ed_var rfl) ed_int atI0) ed_int rfl) ea_nil)
    · exact le_of ⟨rfl, rfl, rfl, trivial⟩
    · intro i d hd2
      rw [List.getElem?_map] at hd2
      cases er : (List.zip bcL (evens c due))[i]? with
      | none => rw [er] at hd2; cases hd2
      | some x =>
        rw [er] at hd2
        cases hd2
        obtain ⟨nm, g, o⟩ := x
        have et : (List.zip bcL (evens c due)).take (i + 1) = (List.zip bcL (evens c due)).take i ++ [(nm, g, o)] := by rw [List.take_add_one, er]; rfl
        refine ⟨_, _, eg_tup (egs_cons eg_name (egs_cons (eg_tup (egs_cons eg_name (egs_cons eg_name egs_nil)) rfl) egs_nil)) rfl, by decide, ((noJ0.set (js' := [4]) rfl (by simp)).set (js' := [4, 5]) rfl (by intro j; simp [or_comm])).set rfl (by intro j; simp; omega), ?_⟩
        refine Eow.less (Eow.is (eow_append (Ed.w (ed_tup (ea_cons ed_str (ea_cons (ed_var rfl) (ea_cons (ed_var rfl) (ea_cons (ed_var rfl) ea_nil)))) (Nat.le_of_ble_eq_true rfl))) rfl ?_) ?_) ?_
        · rw [List.length_cons, List.length_map, List.length_take, List.length_zip]
          show min _ (min 2 _) + 1 < _
          omega
        · rw [et, List.map_append]
          rfl
        · exact le_of ⟨rfl, rfl, rfl, trivial⟩
    · refine eo_ret (Ed.is (ed_tup (ea_cons ed_str (ea_cons (ed_tupOf (ed_var rfl)) ea_nil)) (Nat.le_of_ble_eq_true rfl)) ?_)
      rw [List.length_map, List.take_length]
      show _ = encR (told "a" "b" "c" (sumOf a.2) c due)
      unfold told
      rw [encR_all, evCalls_zip, List.map_cons, List.map_map]
      rfl
abbrev spLeft : Sp := spD (fun a : Pile × Pile => [encP a.1, encP a.2]) PQ fun a => encP (takeL a.1 a.2)
abbrev s_law_left : Stmt := topS 44
abbrev n_law_left : List Str := ["_law_pile", "_law_paying", "_law_gone", "_law_found", "_law_worth", "_law_many", "_law_lot"]
theorem sc_law_left : FnScope n_law_left ["_law_pile", "_law_paying"] (defScope s_law_left) := ⟨rfl, rfl, rfl, by decide +kernel, rfl, by decide +kernel, by decide +kernel⟩
theorem ok_law_left (D : Dfn K mg "_law_left" s_law_left ["_law_pile", "_law_paying"]) (Z : Bi mg) : Cal P w K mg base "_law_left" 1 spLeft := by
  refine D.cal fun f fd F => def_ok F sc_law_left (fun _ => rfl) fun cdv A outer s H E hr => ?_
  refine ⟨_, (pss_cons (ps_set (i := 2) sc_law_left.nd rfl (Or.inr rfl) (pe_callTy (call_dictT rfl) rfl Z.dict bt_dict (pa_cons (pv 1) pa_nil)))
    (pss_cons (ps_setLc (i := 3) (own := [("_law_worth", 4), ("_law_many", 5)]) (g := (gTup K 2 (gCons (gName 4) (gCons (gName 5) gNil)))) (tt := tYes) rfl sc_law_left.nd rfl rfl (sw_true rfl rfl rfl (by decide +kernel)) (pi_tup (pv 0)) (blkOk_by (own := [("_law_worth", 4), ("_law_many", 5)]) (N := n_law_left) (sc := defScope s_law_left) (by decide +kernel)) (fun _ _ _ _ _ => (pg_tup rfl (pgs_cons (pg_name (i := 4) sc_law_left.nd rfl (Or.inl rfl)) (pgs_cons (pg_name (i := 5) sc_law_left.nd rfl (Or.inl rfl)) pgs_nil)))) (fun _ _ _ _ _ => pts_nil) (fun _ _ _ _ _ => (pe_tupF (pa_cons (pv 4) (pa_cons (pe_op op_sub (pv 5) (pe_dget2 (Nat.lt_trans (Nat.add_lt_add_left (by decide : 1 < 64) _) hr.units) (pv 2) (pv 4) pe_int ⟨rfl, rfl, rfl, rfl⟩)) pa_nil)))))
    (pss_one (ps_ret (pe_callTy call_tupleF rfl Z.tuple bt_tuple (pa_cons (pe_lc (own := [("_law_lot", 6)]) (g := (gName 6)) (tt := _) rfl sc_law_left.nd (pi_list (pv 3)) (blkOk_by (own := [("_law_lot", 6)]) (N := n_law_left) (sc := defScope s_law_left) (by decide +kernel)) (fun _ _ _ _ _ => (pg_name (i := 6) sc_law_left.nd rfl (Or.inl rfl))) (fun _ _ _ _ _ => (pts_one (pt_cmpR op_gt (pe_ix (show IxR _ (rIxT K) from ix_tup) (pv 6) pe_int (fun _ _ => rfl)) pe_int (nomark _)))) (fun _ _ _ _ _ => (pv 6))) pa_nil)))))), fun a hp => ?_⟩
  obtain ⟨p, q⟩ := a
  obtain ⟨hp, hg, hl, hs⟩ := hp
  simp only at hp hg hl hs
  show Eo [some (encP p), some (encP q), none, none, none, none, none] _ _
  refine' eo_seq (eo_set (EdF.ed (edf_dict (ed_var rfl) hs.grow.nd))) (eo_seq (eo_set (ed_lcm (l := p) (enc := encL) (f := fun x => encL (x.1, x.2 - cnt q x.1)) (ei_tup (ed_var rfl)) ?k1_28 ?k2_28)) (eo_ret (ed_tupOf (ed_lcf (l := p.map fun x => (x.1, x.2 - cnt q x.1)) (enc := encL) (f := encL) (p := fun x => decide (x.2 > 0)) (ei_list (Ed.is (ed_var rfl) ?k3_28)) ?k4_28 ?k5_28))))
  case k1_28 =>
    intro x hx
    exact ⟨_, _, eg_tup (egs_cons eg_name (egs_cons eg_name egs_nil)) rfl, by decide, rfl, ed_tup (ea_cons (ed_var rfl) (ea_cons (ed_sub (ed_var rfl) (ed_dget2 (ed_var rfl) (ed_var rfl))) ea_nil)) (Nat.le_of_ble_eq_true rfl)⟩
  case k2_28 => omega
  case k3_28 =>
    rw [List.map_map]
    rfl
  case k4_28 =>
    intro x hx
    exact ⟨_, _, eg_name, by decide, et_test (ed_gt (ed_ixT (ds := [.int x.1, .int x.2]) (ed_var rfl) ed_int rfl) ed_int), fun _ => ⟨rfl, ed_var rfl⟩⟩
  case k5_28 =>
    rw [List.length_map]
    omega
end
end K27
end
section
set_option Elab.async false
set_option linter.all false
set_option maxRecDepth 100000
set_option maxHeartbeats 1000000
namespace K27
open PySem PySem.Spec PyProof.Rows L2

local macro_rules | `(tactic| walk_at "ed") => `(tactic| first
  | exact ed_var rfl | exact ed_int | exact ed_str | exact ed_non | exact ed_bl
  | (apply ed_ixT <;> first | rfl | walk_at "ed")
  | (apply ed_add <;> walk_at "ed")
  | (apply ed_sub <;> walk_at "ed")
  | (apply ed_min2 <;> walk_at "ed")
  | (apply ed_max2 <;> walk_at "ed")
  | (apply ed_eqS <;> walk_at "ed")
  | (apply ed_neS <;> walk_at "ed")
  | (apply ed_isN <;> walk_at "ed")
  | (apply ed_notN <;> walk_at "ed")
  | (apply ed_lt <;> walk_at "ed")
  | (apply ed_le <;> walk_at "ed")
  | (apply ed_gt <;> walk_at "ed")
  | (apply ed_ge <;> walk_at "ed")
  | (apply ed_mul <;> first | walk_at "ed" | skip)
  | (apply ed_in2 <;> walk_at "ed")
  | (apply ed_tup <;> first | (show EdA _ _ _; walk_at "ea") | (simp only [List.length_cons, List.length_nil]; decide) | skip)
  | (apply ed_lst <;> first | (show EdA _ _ _; walk_at "ea") | (simp only [List.length_cons, List.length_nil]; decide) | skip)
  | skip)
local macro_rules | `(tactic| walk_at "ea") => `(tactic| first
  | exact ea_nil
  | (apply ea_cons <;> first | (show EdA _ _ _; walk_at "ea") | walk_at "ed"))
local macro_rules | `(tactic| walk_at "set") => `(tactic| (refine' eo_seq (eo_set ?kz1) ?kz2; (case kz1 => walk_at "ed")))
local macro_rules | `(tactic| walk_at "et") => `(tactic| first
  | (refine' et_test ?kz1; (case kz1 => walk_at "ed"))
  | (refine' et_B ?kz1; (case kz1 => walk_at "ed"))
  | skip)
local macro_rules | `(tactic| walk_at "F") => `(tactic| (refine' eo_seq (eo_ifF (Et.is (et_test ?kz1) ?kz2) eo_next) ?kz3; (case kz1 => walk_at "ed"); (case kz2 => decide)))
local macro_rules | `(tactic| walk_at "T") => `(tactic| (refine' eo_ret1 (eo_ifT (Et.is (et_test ?kz1) ?kz2) (eo_ret ?kz3)); (case kz1 => walk_at "ed"); (case kz2 => decide)))
local macro_rules | `(tactic| walk_at "TB") => `(tactic| (refine' eo_ret1 (eo_ifT (Et.is (et_test ?kz1) ?kz2) ?kz3); (case kz1 => walk_at "ed"); (case kz2 => decide)))

/-! ### what the telling call tells -/
theorem evens_at {c due : Int} (hc : 2 ≤ c) (hd : 0 ≤ due) {x : Int × Int} (h : x ∈ evens c due) : 1 ≤ x.1 ∧ x.1 ≤ c ∧ 1 ≤ x.2 ∧ x.2 ≤ due + 1 := by
  have q1 := Int.emod_lt_of_pos due (show 0 < c - 1 by omega)
  have q2 := Int.ediv_le_self (b := c - 1) hd
  unfold evens at h
  rcases List.mem_append.mp h with h | h
  · split at h
    · have e := List.mem_singleton.mp h
      subst e
      simp only
      omega
    · cases h
  · split at h
    · have e := List.mem_singleton.mp h
      subst e
      simp only
      omega
    · cases h
theorem evc_at {c due : Int} {r : Rt Str} (h : r ∈ evCalls bcL (evens c due)) : ∃ (nm : Str) (x : Int × Int), r = .call nm x.1 x.2 ∧ nm ∈ bcL ∧ x ∈ evens c due := by
  rw [evCalls_zip] at h
  obtain ⟨⟨nm, x⟩, hx, rfl⟩ := List.mem_map.mp h
  exact ⟨nm, x, rfl, (List.of_mem_zip hx).1, (List.of_mem_zip hx).2⟩
theorem names_evc : ∀ (ns : List Str) (xs : List (Int × Int)), namesRs (evCalls ns xs) = (List.zip ns xs).map (·.1)
  | [], _ => by simp [evCalls, namesRs]
  | _ :: _, [] => by simp [evCalls, namesRs]
  | n :: ns, x :: xs => by
    rw [evCalls, namesRs, names_evc ns xs, namesR]
    rfl
theorem zip_take {α β : Type} : ∀ (ns : List α) (xs : List β), ∃ k, (List.zip ns xs).map (·.1) = ns.take k
  | [], _ => ⟨0, by simp⟩
  | _ :: _, [] => ⟨0, by simp⟩
  | n :: ns, x :: xs => by
    obtain ⟨k, h⟩ := zip_take ns xs
    exact ⟨k + 1, by simpa using h⟩
abbrev toldL (a c due : Int) : List (Rt Str) := .call "a" a 1 :: evCalls bcL (evens c due)
theorem told_eq (a c due : Int) : told ("a" : Str) "b" "c" a c due = .all (toldL a c due) := rfl
theorem told_calls {a c due : Int} (ha : 1 ≤ a) (hc : 2 ≤ c) (hd : 0 ≤ due) : ∀ r ∈ toldL a c due, CallA r := fun r hr => by
  rcases List.mem_cons.mp hr with e | hr
  · exact ⟨"a", a, 1, e, .inl rfl, ha, Int.le_refl _⟩
  · obtain ⟨nm, x, e, h1, h2⟩ := evc_at hr
    have := evens_at hc hd h2
    refine ⟨nm, x.1, x.2, e, ?_, this.1, this.2.2.1⟩
    rcases List.mem_cons.mp h1 with e | h1
    · exact .inr (.inl e)
    · exact .inr (.inr (List.mem_singleton.mp h1))
theorem told_len (a c due : Int) : (toldL a c due).length ≤ 3 := by
  show (evCalls bcL (evens c due)).length + 1 ≤ 3
  rw [evCalls_zip, List.length_map, List.length_zip]
  show min 2 _ + 1 ≤ 3
  omega
theorem told_names (a c due : Int) : (namesRs (toldL a c due)).Nodup ∧ (namesRs (toldL a c due)).length ≤ 1000 := by
  obtain ⟨k, hk⟩ := zip_take bcL (evens c due)
  have e : namesRs (toldL a c due) = ("a" : Str) :: bcL.take k := by
    show namesRs (.call "a" a 1 :: evCalls bcL (evens c due)) = _
    rw [namesRs, names_evc, hk, namesR]
    rfl
  rw [e]
  have nd : (("a" : Str) :: bcL).Nodup := by decide +kernel
  refine ⟨List.Nodup.sublist (List.Sublist.cons_cons _ (List.take_sublist k bcL)) nd, ?_⟩
  rw [List.length_cons, List.length_take]
  show min k 2 + 1 ≤ 1000
  omega
theorem rbAll_of : ∀ {rs : List (Rt Str)}, (∀ r ∈ rs, rb r) → rbAll rs
  | [], _ => by rw [rbAll]; trivial
  | r :: rs, h => by
    rw [rbAll]
    exact ⟨h r (List.mem_cons_self ..), rbAll_of fun q hq => h q (List.mem_cons_of_mem _ hq)⟩
theorem deps_of {n : Nat} : ∀ {rs : List (Rt Str)}, (∀ r ∈ rs, dep r ≤ n) → deps rs ≤ n
  | [], _ => by rw [deps]; exact Nat.zero_le _
  | r :: rs, h => by
    rw [deps]
    have a := h r (List.mem_cons_self ..)
    have b := deps_of fun q hq => h q (List.mem_cons_of_mem _ hq)
    omega
theorem evc_rb {c due : Int} (hc : 2 ≤ c) (hc2 : c ≤ 1000000) (hd : 0 ≤ due) (hd2 : due < 1000000) : ∀ r ∈ evCalls bcL (evens c due), rb r ∧ dep r ≤ 1 := fun r hr => by
  obtain ⟨nm, x, e, h1, h2⟩ := evc_at hr
  have := evens_at hc hd h2
  subst e
  rw [rb, dep]
  omega
theorem told_rb {a c due : Int} (ha : 1 ≤ a) (ha2 : a ≤ 1000000) (hc : 2 ≤ c) (hc2 : c ≤ 1000000) (hd : 0 ≤ due) (hd2 : due < 1000000) : rb (told "a" "b" "c" a c due) ∧ dep (told "a" "b" "c" a c due) ≤ 2 := by
  rw [told_eq, rb, dep]
  have h : ∀ r ∈ toldL a c due, rb r ∧ dep r ≤ 1 := fun r hr => by
    rcases List.mem_cons.mp hr with e | hr
    · subst e
      rw [rb, dep]
      omega
    · exact evc_rb hc hc2 hd hd2 r hr
  have := told_len a c due
  have q := deps_of fun r hr => (h r hr).2
  exact ⟨⟨by omega, rbAll_of fun r hr => (h r hr).1⟩, by omega⟩
theorem later_rb {c due : Int} (hc : 2 ≤ c) (hc2 : c ≤ 1000000) (hd : 0 ≤ due) (hd2 : due < 1000000) : rb (later ("b" : Str) "c" c due) ∧ dep (later ("b" : Str) "c" c due) ≤ 2 := by
  show rb (.all (.none :: evCalls bcL (evens c due))) ∧ dep (.all (.none :: evCalls bcL (evens c due))) ≤ 2
  rw [rb, dep]
  have h : ∀ r ∈ Rt.none :: evCalls bcL (evens c due), rb r ∧ dep r ≤ 1 := fun r hr => by
    rcases List.mem_cons.mp hr with e | hr
    · subst e
      rw [rb, dep]
      exact ⟨trivial, Nat.le_refl _⟩
    · exact evc_rb hc hc2 hd hd2 r hr
  have l : (Rt.none :: evCalls bcL (evens c due)).length ≤ 3 := told_len 1 c due
  have q := deps_of fun r hr => (h r hr).2
  exact ⟨⟨by omega, rbAll_of fun r hr => (h r hr).1⟩, by omega⟩
theorem sum_pos {q : Pile} (h : ∀ x ∈ q, 1 ≤ x.1 ∧ 1 ≤ x.2) (hne : q ≠ []) : 1 ≤ sumOf q := by
  have nn : ∀ (q : Pile), (∀ x ∈ q, 1 ≤ x.1 ∧ 1 ≤ x.2) → 0 ≤ sumOf q := fun q => by
    induction q with
    | nil => exact fun _ => Int.le_refl _
    | cons x r ih =>
      intro h
      obtain ⟨x, m⟩ := x
      have h1 := h (x, m) (List.mem_cons_self ..)
      have h2 := ih fun y hy => h y (List.mem_cons_of_mem _ hy)
      have h3 : 0 ≤ x * m := Int.mul_nonneg (by omega) (by omega)
      rw [sumOf]
      omega
  cases q with
  | nil => exact absurd rfl hne
  | cons x r =>
    obtain ⟨x, m⟩ := x
    have h1 := h (x, m) (List.mem_cons_self ..)
    have h2 := nn r fun y hy => h y (List.mem_cons_of_mem _ hy)
    have h3 : 1 * 1 ≤ x * m := Int.mul_le_mul h1.1 h1.2 (by decide) (by omega)
    rw [sumOf]
    omega
abbrev toldS (a c due : Int) : Rt Str := told ("a" : Str) "b" "c" a c due
abbrev laterS (c due : Int) : Rt Str := later ("b" : Str) "c" c due
section
variable {P : Program} {w : World} {K : PySem.W.Frag} {mg : Str → Option Value} {base : Heap}
abbrev spTG : Sp := spD (fun a : Pile × Pile => [encP a.1, encP a.2, encP (takeL a.1 a.2)]) (fun a => PQ1 a ∧ sumOf a.1 ≤ 1000000) fun _ => .bool true
abbrev s_law_told_good : Stmt := topS 45
abbrev n_law_told_good : List Str := ["_law_pile", "_law_paying", "_law_left_here", "_law_told", "_law_later"]
theorem sc_law_told_good : FnScope n_law_told_good ["_law_pile", "_law_paying", "_law_left_here"] (defScope s_law_told_good) := ⟨rfl, rfl, rfl, by decide +kernel, rfl, by decide +kernel, by decide +kernel⟩
theorem ok_law_told_good (D : Dfn K mg "_law_told_good" s_law_told_good ["_law_pile", "_law_paying", "_law_left_here"]) (Z : Bi mg) (Ctelling_call : Cal P w K mg base "telling_call" 6 spTell) (Cis_safe : Cal P w K mg base "is_safe" 6 spSafe) (C_law_is_right : Cal P w K mg base "_law_is_right" 4 spIsR)
    (C_law_holds : Cal P w K mg base "_law_holds" 3 (spHolds 2)) (C_law_behind : Cal P w K mg base "_law_behind" 2 (spBeh 2)) (C_law_sum : Cal P w K mg base "_law_sum" 1 spSum) : Cal P w K mg base "_law_told_good" 7 spTG := by
  refine D.cal fun f fd F => def_ok F sc_law_told_good (fun _ => rfl) fun cdv A outer s H E hr => ?_
  refine ⟨_, (pss_cons (ps_set (i := 3) sc_law_told_good.nd rfl (Or.inl rfl) (pe_cal Ctelling_call (hr.mono (by omega)) rfl (pa_cons (pv 0) (pa_cons (pv 1) pa_nil))))
    (pss_cons (ps_if (pt_val (pe_cal Cis_safe (hr.mono (by omega)) rfl (pa_cons (pv 0) (pa_cons (pv 1) pa_nil)))) (pss_one (ps_ret (pe_cmpR op_isN (pv 3) pe_non (nomark _)))) pss_nil)
    (pss_cons (ps_if (PW.pt (pw_or (pt_not (pt_val (pe_cal C_law_is_right (hr.mono (by omega)) rfl (pa_cons (pv 3) pa_nil)))) (pw_or1 (pt_not (pt_val (pe_cal C_law_holds (hr.mono (by omega)) rfl (pa_cons (pv 0) (pa_cons (pv 3) pa_nil)))))))) (pss_one (ps_ret pe_bl)) pss_nil)
    (pss_cons (ps_set (i := 4) sc_law_told_good.nd rfl (Or.inl rfl) (pe_cal C_law_behind (hr.mono (by omega)) rfl (pa_cons (pv 3) (pa_cons pe_str (pa_cons (pe_cal C_law_sum (hr.mono (by omega)) rfl (pa_cons (pv 1) pa_nil)) pa_nil)))))
    (pss_one (ps_ret (pe_and (pe_cmpR op_notN (pv 4) pe_non (nomark _)) (pe_one (pe_not (pe_cal C_law_holds (hr.mono (by omega)) rfl (pa_cons (pv 2) (pa_cons (pv 4) pa_nil)))))))))))), fun a hp => ?_⟩
  obtain ⟨hp, hsum⟩ := hp
  have hP := hp.pq.pb
  have hq := hp.pq.sub.pb hP
  have ht := take_pb hP hp.pq.sub
  show Eo [some (encP a.1), some (encP a.2), some (encP (takeL a.1 a.2)), none, none] _ (.rt (.bool true))
  refine eo_seq (eo_set (ed_call a (ea_cons (ed_var rfl) (ea_cons (ed_var rfl) ea_nil)) hp)) ?_
  cases hu : unsA a with
  | nil =>
    refine eo_ret1 (eo_ifT (Et.is (et_test (ed_call a (ea_cons (ed_var rfl) (ea_cons (ed_var rfl) ea_nil)) hp)) (by show (unsA a).isEmpty = true; rw [hu]; rfl)) (eo_ret (Ed.is (ed_isN (ed_var rfl)) ?_)))
    rw [isNone_optR]
    show PyData.bool (tellR a).isNone = _
    unfold tellR
    rw [hu]
    rfl
  | cons x rest =>
    obtain ⟨c, due⟩ := x
    obtain ⟨m1, ⟨mm, m2⟩, m3, m4⟩ := unsafe_mem (show (c, due) ∈ unsafeAt a.1 (sumOf a.2) (takeL a.1 a.2) by rw [show unsafeAt a.1 (sumOf a.2) (takeL a.1 a.2) = _ from hu]; exact List.mem_cons_self ..)
    have hc : c ≤ 1000000 := (ht.at_ _ m2).2.1
    have hd := lessOf_nn (c := c) fun x hx => ⟨(ht.at_ x hx).1, (ht.at_ x hx).2.2.1⟩
    have hd0 : 0 ≤ due := by omega
    have ha := sum_pos (fun x hx => ⟨(hq.at_ x hx).1, (hq.at_ x hx).2.2.1⟩) hp.ne
    obtain ⟨l1, _⟩ := listSum_some m1 m3
    have et : tellR a = some (toldS (sumOf a.2) c due) := by
      unfold tellR
      rw [hu]
    rw [et]
    show Eo [some (encP a.1), some (encP a.2), some (encP (takeL a.1 a.2)), some (encR (toldS (sumOf a.2) c due)), none] _ _
    obtain ⟨r1, r2⟩ := told_rb (a := sumOf a.2) (c := c) (due := due) ha (by omega) m1 hc hd0 (by omega)
    obtain ⟨r3, r4⟩ := later_rb (c := c) (due := due) m1 hc hd0 (by omega)
    obtain ⟨n1, n2⟩ := told_names (sumOf a.2) c due
    refine eo_seq (eo_ifF (Et.is (et_test (ed_call a (ea_cons (ed_var rfl) (ea_cons (ed_var rfl) ea_nil)) hp)) (by show (unsA a).isEmpty = false; rw [hu]; rfl)) eo_next) ?_
    refine eo_seq (eo_ifF (Et.is (et_or (a := false) (b := false) (et_not (a := true) (et_test (ed_call (toldL (sumOf a.2) c due) (ea_cons (ed_var rfl) ea_nil) ⟨told_calls ha m1 hd0, Nat.le_trans (told_len ..) (by decide), n1, n2⟩))) fun _ => et_not (a := true) (et_test (Ed.is (ed_call (a.1, toldS (sumOf a.2) c due) (ea_cons (ed_var rfl) (ea_cons (ed_var rfl) ea_nil)) ⟨hP, r1, r2⟩) ?_))) rfl) eo_next) ?_
    · exact congrArg PyData.bool (told_holds ha m1 hd0 m3)
    refine eo_seq (eo_set (Ed.is (ed_call (toldS (sumOf a.2) c due, ("a" : Str), sumOf a.2) (ea_cons (ed_var rfl) (ea_cons ed_str (ea_cons (ed_call a.2 (ea_cons (ed_var rfl) ea_nil) hq) ea_nil))) ⟨r1, r2⟩) (show optR (behind (toldS (sumOf a.2) c due) ("a" : Str) (sumOf a.2)) = encR (laterS c due) by rw [told_behind]; rfl))) (eo_ret (Ed.is (ed_andV (a := true) (Ed.is (ed_notN (ed_var rfl)) ?_) fun _ => ed_notV (Ed.is (ed_call (takeL a.1 a.2, laterS c due) (ea_cons (ed_var rfl) (ea_cons (ed_var rfl) ea_nil)) ⟨ht, r3, r4⟩) (congrArg PyData.bool (later_fails m1 m2 hd0 m4)))) rfl))
    rw [isNone_encR]
    rfl
end
end K27
end
section
set_option Elab.async false
set_option linter.all false
set_option maxRecDepth 100000
set_option maxHeartbeats 1000000
namespace K27
open PySem PySem.Spec PyProof.Rows L2

local macro_rules | `(tactic| walk_at "ed") => `(tactic| first
  | exact ed_var rfl | exact ed_int | exact ed_str | exact ed_non | exact ed_bl
  | (apply ed_ixT <;> first | rfl | walk_at "ed")
  | (apply ed_add <;> walk_at "ed")
  | (apply ed_sub <;> walk_at "ed")
  | (apply ed_min2 <;> walk_at "ed")
  | (apply ed_max2 <;> walk_at "ed")
  | (apply ed_eqS <;> walk_at "ed")
  | (apply ed_neS <;> walk_at "ed")
  | (apply ed_isN <;> walk_at "ed")
  | (apply ed_notN <;> walk_at "ed")
  | (apply ed_lt <;> walk_at "ed")
  | (apply ed_le <;> walk_at "ed")
  | (apply ed_gt <;> walk_at "ed")
  | (apply ed_ge <;> walk_at "ed")
  | (apply ed_mul <;> first | walk_at "ed" | skip)
  | (apply ed_in2 <;> walk_at "ed")
  | (apply ed_tup <;> first | (show EdA _ _ _; walk_at "ea") | (simp only [List.length_cons, List.length_nil]; decide) | skip)
  | (apply ed_lst <;> first | (show EdA _ _ _; walk_at "ea") | (simp only [List.length_cons, List.length_nil]; decide) | skip)
  | skip)
local macro_rules | `(tactic| walk_at "ea") => `(tactic| first
  | exact ea_nil
  | (apply ea_cons <;> first | (show EdA _ _ _; walk_at "ea") | walk_at "ed"))
local macro_rules | `(tactic| walk_at "set") => `(tactic| (refine' eo_seq (eo_set ?kz1) ?kz2; (case kz1 => walk_at "ed")))
local macro_rules | `(tactic| walk_at "et") => `(tactic| first
  | (refine' et_test ?kz1; (case kz1 => walk_at "ed"))
  | (refine' et_B ?kz1; (case kz1 => walk_at "ed"))
  | skip)
local macro_rules | `(tactic| walk_at "F") => `(tactic| (refine' eo_seq (eo_ifF (Et.is (et_test ?kz1) ?kz2) eo_next) ?kz3; (case kz1 => walk_at "ed"); (case kz2 => decide)))
local macro_rules | `(tactic| walk_at "T") => `(tactic| (refine' eo_ret1 (eo_ifT (Et.is (et_test ?kz1) ?kz2) (eo_ret ?kz3)); (case kz1 => walk_at "ed"); (case kz2 => decide)))
local macro_rules | `(tactic| walk_at "TB") => `(tactic| (refine' eo_ret1 (eo_ifT (Et.is (et_test ?kz1) ?kz2) ?kz3); (case kz1 => walk_at "ed"); (case kz2 => decide)))

/-! ### all payings of a sum -/
def stepP (a : Int) (x : Int × Int) (found : List Pile) : List Pile := found.flatMap fun one => (List.range (x.2 + 1).toNat).filterMap fun (u : Nat) => if sumOf one + x.1 * (u : Int) ≤ a then some (one ++ (if 0 < (u : Int) then [(x.1, (u : Int))] else [])) else none
def foundP (a : Int) : Pile → List Pile → List Pile
  | [], f => f
  | x :: p, f => foundP a p (stepP a x f)
theorem foundP_snoc (a : Int) (x : Int × Int) : ∀ (p : Pile) (f : List Pile), foundP a (p ++ [x]) f = stepP a x (foundP a p f)
  | [], f => rfl
  | y :: p, f => foundP_snoc a x p (stepP a y f)
/-- what a part-made paying is -/
structure SubI (p : Pile) (a : Int) (one : Pile) : Prop where
  grow : Grow one
  len : one.length ≤ p.length
  at_ : ∀ x ∈ one, ∃ M, (x.1, M) ∈ p ∧ 1 ≤ x.2 ∧ x.2 ≤ M
  sum : sumOf one ≤ a
theorem sumOf_app (p q : Pile) : sumOf (p ++ q) = sumOf p + sumOf q := by
  induction p with
  | nil =>
    show sumOf q = 0 + sumOf q
    omega
  | cons x p ih =>
    obtain ⟨x, m⟩ := x
    show sumOf ((x, m) :: (p ++ q)) = sumOf ((x, m) :: p) + sumOf q
    rw [sumOf, sumOf, ih]
    omega
theorem step_sub {p : Pile} {x : Int × Int} {a : Int} {f : List Pile} (hg : Grow (p ++ [x])) (hf : ∀ one ∈ f, SubI p a one) : ∀ one ∈ stepP a x f, SubI (p ++ [x]) a one := fun one h => by
  unfold stepP at h
  obtain ⟨o, ho, h⟩ := List.mem_flatMap.mp h
  obtain ⟨u, hu, h⟩ := List.mem_filterMap.mp h
  have hu := List.mem_range.mp hu
  split at h
  · rename_i hs
    cases h
    have s := hf o ho
    by_cases h0 : 0 < (u : Int)
    · rw [if_pos h0]
      refine ⟨List.pairwise_append.mpr ⟨s.grow, List.pairwise_singleton .., fun y hy z hz => ?_⟩, ?_, fun y hy => ?_, ?_⟩
      · rw [List.mem_singleton.mp hz]
        obtain ⟨M, hM, _⟩ := s.at_ y hy
        exact (List.pairwise_append.mp hg).2.2 _ hM x (List.mem_singleton.mpr rfl)
      · rw [List.length_append, List.length_append]
        have := s.len
        show _ + 1 ≤ _ + 1
        omega
      · rcases List.mem_append.mp hy with hy | hy
        · obtain ⟨M, hM, h1⟩ := s.at_ y hy
          exact ⟨M, List.mem_append_left _ hM, h1⟩
        · rw [List.mem_singleton.mp hy]
          exact ⟨x.2, List.mem_append_right _ (List.mem_singleton.mpr rfl), by show 1 ≤ (u : Int); omega, by show (u : Int) ≤ x.2; omega⟩
      · rw [sumOf_app]
        show _ + (x.1 * (u : Int) + 0) ≤ a
        omega
    · rw [if_neg h0, List.append_nil]
      refine ⟨s.grow, ?_, fun y hy => ?_, s.sum⟩
      · rw [List.length_append]
        have := s.len
        omega
      · obtain ⟨M, hM, h1⟩ := s.at_ y hy
        exact ⟨M, List.mem_append_left _ hM, h1⟩
  · cases h
theorem found_sub {a : Int} (ha : 0 ≤ a) : ∀ (q p : Pile) (f : List Pile), Grow (p ++ q) → (∀ one ∈ f, SubI p a one) → ∀ one ∈ foundP a q f, SubI (p ++ q) a one
  | [], p, f, hg, hf => by
    rw [List.append_nil]
    exact hf
  | x :: q, p, f, hg, hf => by
    have e : p ++ x :: q = (p ++ [x]) ++ q := by rw [List.append_assoc]; rfl
    rw [e] at hg ⊢
    exact found_sub ha q (p ++ [x]) (stepP a x f) hg (step_sub (List.pairwise_append.mp hg).1 hf)
theorem subI_nil {a : Int} (ha : 0 ≤ a) (p : Pile) : SubI p a [] := ⟨List.Pairwise.nil, Nat.zero_le _, fun x h => (nomatch h), ha⟩
/-! how many -/
theorem sum_nn {q : Pile} (h : ∀ x ∈ q, 0 ≤ x.1 ∧ 0 ≤ x.2) : 0 ≤ sumOf q := by
  induction q with
  | nil => exact Int.le_refl _
  | cons x r ih =>
    obtain ⟨x, m⟩ := x
    have h1 := h (x, m) (List.mem_cons_self ..)
    have h2 := ih fun y hy => h y (List.mem_cons_of_mem _ hy)
    have h3 : 0 ≤ x * m := Int.mul_nonneg h1.1 h1.2
    rw [sumOf]
    omega
theorem fm_len {α β : Type} (f : α → Option β) (k : Nat) : ∀ (l : List α) , (∀ (i : Nat) (x : α), l[i]? = some x → k ≤ i → f x = none) → (l.filterMap f).length ≤ k
  | [], _ => Nat.zero_le _
  | x :: l, h => by
    cases k with
    | zero =>
      rw [List.filterMap_cons, h 0 x rfl (Nat.le_refl _)]
      exact fm_len f 0 l fun i y e _ => h (i + 1) y (by simpa using e) (Nat.zero_le _)
    | succ k =>
      have := fm_len f k l fun i y e hk => h (i + 1) y (by simpa using e) (by omega)
      rw [List.filterMap_cons]
      split
      · omega
      · rw [List.length_cons]
        omega
theorem step_len {p : Pile} {x : Int × Int} {a : Int} {k : Nat} {f : List Pile} (hf : ∀ one ∈ f, 0 ≤ sumOf one) (hk : a < x.1 * (k : Int)) (hx : 1 ≤ x.1) : (stepP a x f).length ≤ f.length * k := by
  unfold stepP
  induction f with
  | nil => simp
  | cons o f ih =>
    rw [List.flatMap_cons, List.length_append, List.length_cons, Nat.succ_mul]
    have h1 := ih fun q hq => hf q (List.mem_cons_of_mem _ hq)
    have h0 := hf o (List.mem_cons_self ..)
    have h2 : ((List.range (x.2 + 1).toNat).filterMap fun (u : Nat) => if sumOf o + x.1 * (u : Int) ≤ a then some (o ++ (if 0 < (u : Int) then [(x.1, (u : Int))] else [])) else none).length ≤ k := by
      refine fm_len _ k _ fun i y e hki => ?_
      obtain ⟨l1, e1⟩ := List.getElem?_eq_some_iff.mp e
      rw [List.getElem_range] at e1
      subst e1
      rw [if_neg]
      have : x.1 * (k : Int) ≤ x.1 * (i : Int) := Int.mul_le_mul_of_nonneg_left (by omega) (by omega)
      omega
    omega
theorem found_len {a : Int} (ha : a ≤ 5) : ∀ (q : Pile) (c : Nat) (f : List Pile) (p : Pile), 1 ≤ c → c ≤ 6 → Grow (p ++ q) → (∀ x ∈ p ++ q, 1 ≤ x.1) → (∀ x ∈ q, (c : Int) ≤ x.1) → (∀ one ∈ f, SubI p a one) → (foundP a q f).length ≤ f.length * 6 ^ (6 - c)
  | [], c, f, p, h1, h2, hg, hw, hq, hf => by
    show f.length ≤ _
    exact Nat.le_mul_of_pos_right _ (Nat.pow_pos (by decide))
  | x :: q, c, f, p, h1, h2, hg, hw, hq, hf => by
    have e : p ++ x :: q = (p ++ [x]) ++ q := by rw [List.append_assoc]; rfl
    rw [e] at hg hw
    have hx := hq x (List.mem_cons_self ..)
    have gx : ∀ y ∈ q, x.1 < y.1 := fun y hy => (List.pairwise_append.mp hg).2.2 x (List.mem_append_right _ (List.mem_singleton.mpr rfl)) y hy
    have hnn : ∀ one ∈ f, 0 ≤ sumOf one := fun one ho => sum_nn fun y hy => by
      obtain ⟨M, hM, hy1, _⟩ := (hf one ho).at_ y hy
      have := hw _ (List.mem_append_left _ (List.mem_append_left _ hM))
      simp only at this
      omega
    have hf2 := step_sub (a := a) (List.pairwise_append.mp hg).1 hf
    show (foundP a q (stepP a x f)).length ≤ _
    by_cases h5 : x.1 ≤ 5
    · obtain ⟨n, hn⟩ : ∃ n : Nat, x.1 = (n : Int) := ⟨x.1.toNat, by omega⟩
      have s1 := step_len (p := p) (x := x) (a := a) (k := 6) hnn (by omega) (by omega)
      have s2 := found_len ha q (n + 1) (stepP a x f) (p ++ [x]) (by omega) (by omega) hg hw (fun y hy => by have := gx y hy; omega) hf2
      have s3 : 6 ^ (6 - (n + 1)) * 6 = 6 ^ (6 - n) := by
        rw [← Nat.pow_succ]
        congr 1
        omega
      have s4 : 6 ^ (6 - n) ≤ 6 ^ (6 - c) := Nat.pow_le_pow_right (by decide) (by omega)
      calc (foundP a q (stepP a x f)).length ≤ (stepP a x f).length * 6 ^ (6 - (n + 1)) := s2
        _ ≤ f.length * 6 * 6 ^ (6 - (n + 1)) := Nat.mul_le_mul_right _ s1
        _ = f.length * 6 ^ (6 - n) := by rw [← s3, Nat.mul_assoc, Nat.mul_comm 6]
        _ ≤ f.length * 6 ^ (6 - c) := Nat.mul_le_mul_left _ s4
    · have s1 := step_len (p := p) (x := x) (a := a) (k := 1) hnn (by omega) (by omega)
      have s2 := found_len ha q 6 (stepP a x f) (p ++ [x]) (by omega) (by omega) hg hw (fun y hy => by have := gx y hy; omega) hf2
      have s4 : 6 ^ (6 - 6) ≤ 6 ^ (6 - c) := Nat.pow_le_pow_right (by decide) (by omega)
      calc (foundP a q (stepP a x f)).length ≤ (stepP a x f).length * 6 ^ (6 - 6) := s2
        _ ≤ f.length * 1 * 6 ^ (6 - 6) := Nat.mul_le_mul_right _ s1
        _ ≤ f.length * 6 ^ (6 - c) := by rw [Nat.mul_one]; exact Nat.mul_le_mul_left _ s4
theorem found_len' {a : Int} (ha0 : 0 ≤ a) (ha : a ≤ 5) {p : Pile} (hg : Grow p) (hw : ∀ x ∈ p, 1 ≤ x.1) : (foundP a p [[]]).length ≤ 7776 := by
  have := found_len ha p 1 [[]] [] (by decide) (by decide) hg hw (fun x hx => hw x hx) fun one ho => by
    rw [List.mem_singleton.mp ho]
    exact subI_nil ha0 _
  simpa using this
end K27
end
section
set_option Elab.async false
set_option linter.all false
set_option maxRecDepth 100000
set_option maxHeartbeats 1000000
namespace K27
open PySem PySem.Spec PyProof.Rows L2

local macro_rules | `(tactic| walk_at "ed") => `(tactic| first
  | exact ed_var rfl | exact ed_int | exact ed_str | exact ed_non | exact ed_bl
  | (apply ed_ixT <;> first | rfl | walk_at "ed")
  | (apply ed_add <;> walk_at "ed")
  | (apply ed_sub <;> walk_at "ed")
  | (apply ed_min2 <;> walk_at "ed")
  | (apply ed_max2 <;> walk_at "ed")
  | (apply ed_eqS <;> walk_at "ed")
  | (apply ed_neS <;> walk_at "ed")
  | (apply ed_isN <;> walk_at "ed")
  | (apply ed_notN <;> walk_at "ed")
  | (apply ed_lt <;> walk_at "ed")
  | (apply ed_le <;> walk_at "ed")
  | (apply ed_gt <;> walk_at "ed")
  | (apply ed_ge <;> walk_at "ed")
  | (apply ed_mul <;> first | walk_at "ed" | skip)
  | (apply ed_in2 <;> walk_at "ed")
  | (apply ed_tup <;> first | (show EdA _ _ _; walk_at "ea") | (simp only [List.length_cons, List.length_nil]; decide) | skip)
  | (apply ed_lst <;> first | (show EdA _ _ _; walk_at "ea") | (simp only [List.length_cons, List.length_nil]; decide) | skip)
  | skip)
local macro_rules | `(tactic| walk_at "ea") => `(tactic| first
  | exact ea_nil
  | (apply ea_cons <;> first | (show EdA _ _ _; walk_at "ea") | walk_at "ed"))
local macro_rules | `(tactic| walk_at "set") => `(tactic| (refine' eo_seq (eo_set ?kz1) ?kz2; (case kz1 => walk_at "ed")))
local macro_rules | `(tactic| walk_at "et") => `(tactic| first
  | (refine' et_test ?kz1; (case kz1 => walk_at "ed"))
  | (refine' et_B ?kz1; (case kz1 => walk_at "ed"))
  | skip)
local macro_rules | `(tactic| walk_at "F") => `(tactic| (refine' eo_seq (eo_ifF (Et.is (et_test ?kz1) ?kz2) eo_next) ?kz3; (case kz1 => walk_at "ed"); (case kz2 => decide)))
local macro_rules | `(tactic| walk_at "T") => `(tactic| (refine' eo_ret1 (eo_ifT (Et.is (et_test ?kz1) ?kz2) (eo_ret ?kz3)); (case kz1 => walk_at "ed"); (case kz2 => decide)))
local macro_rules | `(tactic| walk_at "TB") => `(tactic| (refine' eo_ret1 (eo_ifT (Et.is (et_test ?kz1) ?kz2) ?kz3); (case kz1 => walk_at "ed"); (case kz2 => decide)))

/-! ### some list, all of whose items are of a kind -/
def EdR (ρ : En) (te : TE) (T : PD → Prop) : Prop := ∀ (σ : L2.St) (H : Hp) (Q : VK), Sg H σ ρ → (∀ v H' ds, Same H H' → Dv H' v (.list ds) → (∀ d ∈ ds, T d) → Q v H') → te σ H Q
def EoR (ρ : En) (t : TS) (T : PD → Prop) : Prop := ∀ (D : Ends) (σ : L2.St) (H : Hp), Sg H σ ρ → (∀ v H' ds, Same H H' → Dv H' v (.list ds) → (∀ d ∈ ds, T d) → D.rt v H') → t D σ H
section
variable {ρ ρ1 : En} {ta tb te : TE} {t u : TS} {T T' : PD → Prop} {K : PySem.W.Frag}
theorem eor_ret (h : EdR ρ te T) : EoR ρ (tRet te) T := fun D σ H s q => h σ H _ s q
theorem eor_seq (h1 : Eo ρ t (.go ρ1)) (h2 : EoR ρ1 u T) : EoR ρ (tSeq t u) T := fun D σ H s q => h1 { D with nx := u D } σ H s fun σ' H' e s' => h2 D σ' H' s' fun v H2 ds e2 hd ht => q v H2 ds (e.trans e2) hd ht
theorem EdR.imp (h : EdR ρ te T) (i : ∀ d, T d → T' d) : EdR ρ te T' := fun σ H Q s q => h σ H Q s fun v H' ds e hd ht => q v H' ds e hd fun d hm => i d (ht d hm)
theorem edr_slL {tl th : TO} {lo hi : Option Int} (ha : EdR ρ ta T) (hl : EdO ρ tl lo) (hh : EdO ρ th hi) : EdR ρ (tSl (rSlL K) ta tl th) T := fun σ H Q s q =>
  ha σ H _ s fun v H1 ds e1 h1 ht => hl σ H1 _ (s.mono e1) fun H2 e2 => hh σ H2 _ (s.mono (e1.trans e2)) fun H3 e3 => by
    obtain ⟨a, xs, rfl, g1, g2⟩ := (h1.mono (e2.trans e3)).of_lst
    have e := (e1.trans e2).trans e3
    exact ⟨a, xs, rfl, SqL.of g1, fun p hp => q _ _ _ (e.trans (Same.new hp)) (.lst upd_same ((g2.cut lo hi).mono (Same.new hp))) fun d hd => ht d (List.mem_of_mem_drop (List.mem_of_mem_take hd))⟩
/-- a loop that only looks -/
theorem eo_forC {g : TG} {tb : TS} (h : EdR ρ te T) (ht : ∀ d, T d → ∃ js ρ2, Eg ρ g d js ρ2 ∧ Eo ρ2 tb (.go ρ)) : Eo ρ (tFor (iList K te) g tb) (.go ρ) := fun D σ H s q => h σ H _ s fun v H1 ds e1 h1 hT => by
  obtain ⟨a, xs, rfl, g1, g2⟩ := h1.of_lst
  have w := wk_list (K := K) g1 g2
  refine ⟨a, rfl, ⟨xs, SqL.of g1⟩, fun i m σ' H' => m = ds.length - i ∧ i ≤ ds.length ∧ Same H1 H' ∧ Sg H' σ' ρ, ⟨_, rfl, Nat.zero_le _, Same.refl _, s.mono e1⟩, ?_⟩
  rintro i m σ2 H2 ⟨rfl, hi, e2, s2⟩
  by_cases hlt : i < ds.length
  · refine .inr ⟨w.goes i H2 e2 hlt, fun σ' H' => i + 1 ≤ ds.length ∧ Same H1 H' ∧ Sg H' σ' ρ, fun σ' H' p => ⟨ds.length - (i + 1), by omega, rfl, p⟩, fun x H3 y => ?_⟩
    obtain ⟨e3, d, hd, hx⟩ := w.yields i H2 x H3 e2 hlt y
    obtain ⟨js, ρ2, k1, k2⟩ := ht d (hT d (List.mem_of_getElem? hd))
    refine k1 x σ2 H3 _ (s2.mono e3) hx fun σ3 s3 _ _ => ?_
    exact k2 { D with nx := _, ct := _, bk := D.nx } σ3 H3 s3 fun σ4 H4 e4 s4 => ⟨by omega, e2.trans (e3.trans e4), s4⟩
  · have hi' : i = ds.length := by omega
    subst hi'
    exact .inl ⟨w.stops H2 e2, q σ2 H2 (e1.trans e2) s2⟩
theorem dvAll_pairs {H : Hp} {xs : List V} {ds : List PD} (h : DvAll H xs ds) : ∀ b ∈ xs.zip ds, Dv H b.1 b.2 := fun b hb => by
  obtain ⟨i, hi⟩ := List.mem_iff_getElem?.mp hb
  obtain ⟨z1, z2⟩ := List.getElem?_zip_eq_some.mp hi
  obtain ⟨v, h1, h2⟩ := h.get z2
  rw [z1] at h1
  cases h1
  exact h2
theorem dvAll_map {H : Hp} : ∀ {bs : List (V × PD)}, (∀ b ∈ bs, Dv H b.1 b.2) → DvAll H (bs.map Prod.fst) (bs.map Prod.snd)
  | [], _ => .nil
  | b :: bs, h => .cons (h b (List.mem_cons_self ..)) (dvAll_map fun c hc => h c (List.mem_cons_of_mem _ hc))
theorem alike_encL : ∀ (p q : List (Int × Int)), PySem.W.alikeAll (p.map encL) (q.map encL) = true
  | [], _ => by simp [PySem.W.alikeAll]
  | _ :: _, [] => by simp [PySem.W.alikeAll]
  | x :: p, y :: q => by
    rw [List.map_cons, List.map_cons]
    simp only [PySem.W.alikeAll, alike_encL p q, Bool.and_true]
    rfl
theorem edr_sorted {qs : List Pile} (h : Ed ρ te (.list (qs.map encP))) (hne : ∀ q ∈ qs, q ≠ []) : EdR ρ (tCB (fun vs H Q => ∃ (a : Addr) (xs : List V) (ds : List PyData), vs = [.ref a] ∧ SqL K H a xs ∧ DpAll K H xs ds ∧ PySem.W.AllAlike ds ∧ PySem.W.Sortable ds ∧ (∀ d ∈ ds, d.depth ≤ 8) ∧
    ∀ (bs : List (V × PyData)) (p : Addr), bs.Perm (xs.zip ds) → H p = none → Q (.ref p) (upd H p (.lst (bs.map Prod.fst)))) (tCons te tNil)) (fun d => ∃ q ∈ qs, d = encP q) := fun σ H Q s q => h σ H _ s fun v H1 e1 h1 => by
  obtain ⟨a, xs, rfl, g1, g2⟩ := h1.of_lst
  have nd : ∀ l : List Pile, noDAll (l.map encP) = true := fun l => by
    induction l with
    | nil => rfl
    | cons x l ih =>
      rw [List.map_cons]
      simp only [noDAll, ih, noD_encP, Bool.and_true]
  refine ⟨a, xs, qs.map encP, rfl, SqL.of g1, g2.dp (nd qs), fun d hd d' hd' => ?_, .inl fun d hd => ?_, fun d hd => ?_, fun bs p pm hp => ?_⟩
  · obtain ⟨q1, _, rfl⟩ := List.mem_map.mp hd
    obtain ⟨q2, _, rfl⟩ := List.mem_map.mp hd'
    unfold encP
    simp only [PySem.W.alike]
    exact alike_encL q1 q2
  · obtain ⟨q1, hq, rfl⟩ := List.mem_map.mp hd
    cases q1 with
    | nil => exact absurd rfl (hne _ hq)
    | cons x r => exact ⟨_, _, rfl⟩
  · obtain ⟨q1, _, rfl⟩ := List.mem_map.mp hd
    have := (lay_encL q1).2
    unfold encP
    simp only [PyData.depth]
    omega
  · have hb : ∀ b ∈ bs, b ∈ xs.zip (qs.map encP) := fun b hb => pm.mem_iff.mp hb
    have dv := dvAll_map fun b hb' => dvAll_pairs g2 b (hb b hb')
    refine q _ _ _ (e1.trans (Same.new hp)) (.lst upd_same (dv.mono (Same.new hp))) fun d hd => ?_
    obtain ⟨b, hb', rfl⟩ := List.mem_map.mp hd
    obtain ⟨q1, hq, e⟩ := List.mem_map.mp (List.of_mem_zip (hb b hb')).2
    exact ⟨q1, hq, e.symm⟩
theorem ed_rep01 {d : PD} {c : Bool} (h1 : Ed ρ ta (.tuple [d])) (h2 : Ed ρ tb (.int (if c then 1 else 0))) : Ed ρ (tOp (rRep01 K) ta tb) (.tuple (if c then [d] else [])) := ed_op h1 h2 fun x y H Q hx hy q => by
  obtain ⟨a, xs, rfl, g1, g2⟩ := hx.of_tup
  cases hy
  refine ⟨a, _, xs, rfl, rfl, g1.seq, fun e => ?_, ?_⟩
  · rw [e] at g2
    cases g2
  · cases c with
    | true => exact .inl ⟨rfl, q _ H (Same.refl H) (.tup g1 g2)⟩
    | false => exact .inr ⟨rfl, DvAll.nil.newT q⟩
theorem Eow.at {α : Type} {C : Hp → HO → α → Prop} {k : Nat} {ρ ρ' : En} {c c0 c' : α} {t : TS} (h : Eow C k ρ c t ρ' c') (e : c = c0) : Eow C k ρ c0 t ρ' c' := e ▸ h
end
theorem noL_encP (q : Pile) : noL (encP q) = true := by
  unfold encP
  simp only [noL]
  exact noLAll_encL q
theorem SubI.pb {p one : Pile} {a : Int} (h : SubI p a one) (hp : PB p) : PB one := ⟨Nat.le_trans h.len hp.len, fun x hx => by
  obtain ⟨M, h1, h2, h3⟩ := h.at_ x hx
  have := hp.at_ _ h1
  simp only at this
  omega⟩
def gOne (a : Int) (x : Int × Int) (one : Pile) (u : Nat) : Option Pile := if sumOf one + x.1 * (u : Int) ≤ a then some (one ++ (if 0 < (u : Int) then [(x.1, (u : Int))] else [])) else none
def gAll (a : Int) (x : Int × Int) (one : Pile) : List Pile := (List.range (x.2 + 1).toNat).filterMap (gOne a x one)
theorem stepP_eq (a : Int) (x : Int × Int) (f : List Pile) : stepP a x f = f.flatMap (gAll a x) := rfl
theorem part_len {a : Int} {x : Int × Int} {f : List Pile} {j : Nat} {one : Pile} (er : f[j]? = some one) {u : Nat} (hu : u ≤ (x.2 + 1).toNat) : ((f.take j).flatMap (gAll a x) ++ (List.range u).filterMap (gOne a x one)).length ≤ (stepP a x f).length := by
  have e : f = f.take j ++ one :: f.drop (j + 1) := by
    obtain ⟨hl, e1⟩ := List.getElem?_eq_some_iff.mp er
    rw [← e1, ← List.drop_eq_getElem_cons hl, List.take_append_drop]
  have s1 : ((List.range u).filterMap (gOne a x one)).length ≤ (gAll a x one).length := (List.Sublist.filterMap _ (List.range_sublist.mpr hu)).length_le
  have s2 : (stepP a x f).length = ((f.take j).flatMap (gAll a x)).length + ((gAll a x one).length + ((f.drop (j + 1)).flatMap (gAll a x)).length) := by
    rw [stepP_eq]
    conv => lhs; rw [e, List.flatMap_append, List.flatMap_cons, List.length_append, List.length_append]
  rw [List.length_append]
  omega
section
variable {P : Program} {w : World} {K : PySem.W.Frag} {mg : Str → Option Value} {base : Heap}
structure PPay (p : Pile) (a : Int) : Prop where
  pb : PB p
  grow : Grow p
  len : p.length < 64
  few : ∀ x ∈ p, x.2 ≤ 1000
  one : 1 ≤ a
  five : a ≤ 5
def TPay (p : Pile) (a : Int) (d : PD) : Prop := ∃ q, d = encP q ∧ Sub p q ∧ q ≠ [] ∧ sumOf q = a
abbrev spPay : Sp := fun vs H Q _ => ∃ (p : Pile) (a : Int), DvAll H vs [encP p, .int a] ∧ PPay p a ∧ ∀ v H' ds, Same H H' → Dv H' v (.list ds) → (∀ d ∈ ds, TPay p a d) → Q v H'
theorem pay_len {p : Pile} {a : Int} (h : PPay p a) (i : Nat) : (foundP a (p.take i) [[]]).length ≤ 7776 :=
  found_len' (Int.le_trans (by decide) h.one) h.five (List.Pairwise.sublist (List.take_sublist i p) h.grow) fun x hx => (h.pb.at_ x (List.mem_of_mem_take hx)).1
theorem pay_sub {p : Pile} {a : Int} (h : PPay p a) (i : Nat) : ∀ one ∈ foundP a (p.take i) [[]], SubI p a one := fun one ho => by
  have q := found_sub (a := a) (Int.le_trans (by decide) h.one) (p.take i) [] [[]] (List.Pairwise.sublist (List.take_sublist i p) h.grow) (fun o h' => by
    rw [List.mem_singleton.mp h']
    exact subI_nil (Int.le_trans (by decide) h.one) _) one ho
  rw [List.nil_append] at q
  refine ⟨q.grow, Nat.le_trans q.len (by rw [List.length_take]; omega), fun x hx => ?_, q.sum⟩
  obtain ⟨M, h1, h2⟩ := q.at_ x hx
  exact ⟨M, List.mem_of_mem_take h1, h2⟩
abbrev s_law_payings : Stmt := topS 43
abbrev n_law_payings : List Str := ["_law_pile", "_law_amount", "_law_found", "_law_worth", "_law_many", "_law_longer", "_law_one", "_law_used"]
theorem sc_law_payings : FnScope n_law_payings ["_law_pile", "_law_amount"] (defScope s_law_payings) := ⟨rfl, rfl, rfl, by decide +kernel, rfl, by decide +kernel, by decide +kernel⟩
theorem ok_law_payings (D : Dfn K mg "_law_payings" s_law_payings ["_law_pile", "_law_amount"]) (Z : Bi mg) (C_law_sum : Cal P w K mg base "_law_sum" 1 spSum) : Cal P w K mg base "_law_payings" 2 spPay := by
  refine D.cal fun f fd F => F.ok sc_law_payings (fun vs H Q E h => ?_) (fun cdv A outer s H vs Q E hr h => ?_)
  · obtain ⟨p, a, h1, _⟩ := h
    rw [h1.length]
    rfl
  obtain ⟨p, a, h1, hp, h3⟩ := h
  refine ⟨_, (pss_cons (ps_set (i := 2) sc_law_payings.nd rfl (Or.inl rfl) (pe_lst (pa_cons (pe_tupF pa_nil) pa_nil)))
    (pss_cons (ps_for PassesOwn.never rfl (pi_tup (pv 0)) (pg_tup rfl (pgs_cons (pg_name (i := 3) sc_law_payings.nd rfl (Or.inl rfl)) (pgs_cons (pg_name (i := 4) sc_law_payings.nd rfl (Or.inl rfl)) pgs_nil)))
      (pss_cons (ps_set (i := 5) sc_law_payings.nd rfl (Or.inl rfl) (pe_lst pa_nil))
    (pss_cons (ps_for PassesOwn.never rfl (pi_list (pv 2)) (pg_name (i := 6) sc_law_payings.nd rfl (Or.inl rfl))
      (pss_one (ps_for PassesOwn.never rfl (pi_range1 rfl Z.range (pa_cons (pe_op op_add (pv 4) pe_int) pa_nil)) (pg_name (i := 7) sc_law_payings.nd rfl (Or.inl rfl))
      (pss_one (ps_if (pt_cmpR op_le (pe_op op_add (pe_cal C_law_sum (hr.mono (by omega)) rfl (pa_cons (pv 6) pa_nil)) (pe_op op_mul (pv 3) (pv 7))) (pv 1) (nomark _)) (pss_one (ps_expr (pe_bm PySem.F.plainAttrs_list PySem.F.slot_list_append PySem.F.type_list_append mt_append (pv 5) (pa_cons (pe_op op_catF (pv 6) (pe_op op_rep01 (pe_tupF (pa_cons (pe_tupF (pa_cons (pv 3) (pa_cons (pv 7) pa_nil))) pa_nil)) (pe_callTy call_int1 rfl Z.int bt_int (pa_cons (pe_cmpR op_gt (pv 7) pe_int (nomark _)) pa_nil)))) pa_nil)))) pss_nil)))))
    (pss_one (ps_set (i := 2) sc_law_payings.nd rfl (Or.inl rfl) (pv 5))))))
    (pss_one (ps_ret (pe_callB (cr_sortedU hr.units) rfl Z.sorted bt_sorted (pa_cons (pe_lc (own := [("_law_one", 6)]) (g := (gName 6)) (tt := _) rfl sc_law_payings.nd (pi_list (pv 2)) (blkOk_by (own := [("_law_one", 6)]) (N := n_law_payings) (sc := defScope s_law_payings) (by decide +kernel)) (fun _ _ _ _ _ => (pg_name (i := 6) sc_law_payings.nd rfl (Or.inl rfl))) (fun _ _ _ _ _ => (pts_one (pt_cmpR op_eq (pe_cal C_law_sum (hr.mono (by omega)) rfl (pa_cons (pv 6) pa_nil)) (pv 1) (nomark _)))) (fun _ _ _ _ _ => (pv 6))) pa_nil)))))), ?_⟩
  suffices hh : EoR (startE n_law_payings [encP p, .int a]) _ (TPay p a) from hh _ _ H (start_sg h1) fun v H' ds e hd ht => h3 v H' ds e hd ht
  have hlen := hp.pb.len
  show EoR [some (encP p), some (.int a), none, none, none, none, none, none] _ _
  refine' eor_seq (eo_set (d := .list ((foundP a (p.take 0) [[]]).map encP)) (ed_lst (ea_cons (ed_tup ea_nil (Nat.zero_le _)) ea_nil) (Nat.le_of_ble_eq_true rfl))) (eor_seq (eo_for (ds := p.map encL) (fun i => [some (encP p), some (.int a), some (.list ((foundP a (p.take i) [[]]).map encP)), none, none, none, none, none]) (ei_tup (ed_var rfl)) (le_of ?k1_19) ?k2_19) (eor_ret (EdR.imp (edr_sorted (qs := (foundP a (p.take (p.map encL).length) [[]]).filter fun q => decide (sumOf q = a)) (ed_lcf (l := foundP a (p.take (p.map encL).length) [[]]) (enc := encP) (f := encP) (p := fun q => decide (sumOf q = a)) (ei_list (ed_var rfl)) ?k3_19 ?k4_19) ?k5_19) ?k6_19)))
  case k1_19 => exact ⟨rfl, rfl, rfl, trivial⟩
  case k3_19 =>
    intro q hq
    exact ⟨_, _, eg_name, by decide, et_test (ed_eqI (ed_call q (ea_cons (ed_var rfl) ea_nil) ((pay_sub hp _ q hq).pb hp.pb)) (ed_var rfl)), fun _ => ⟨noL_encP q, ed_var rfl⟩⟩
  case k4_19 => exact Nat.lt_of_le_of_lt (pay_len hp _) (by decide)
  case k5_19 =>
    intro q hq e
    have := of_decide_eq_true (List.mem_filter.mp hq).2
    rw [e] at this
    have h1 := hp.one
    have : (0 : Int) = a := this
    omega
  case k6_19 =>
    rintro d ⟨q, hq, rfl⟩
    obtain ⟨h1, h2⟩ := List.mem_filter.mp hq
    have e := of_decide_eq_true h2
    have s := pay_sub hp _ q h1
    refine ⟨q, rfl, ⟨s.grow, Nat.le_trans s.len hlen, s.at_⟩, fun z => ?_, e⟩
    rw [z] at e
    have h1 := hp.one
    have : (0 : Int) = a := e
    omega
  case k2_19 =>
    intro i d hd2
    rw [List.getElem?_map] at hd2
    cases er : p[i]? with
    | none => rw [er] at hd2; cases hd2
    | some x =>
      rw [er] at hd2
      cases hd2
      have hx := hp.pb.at_ _ (List.mem_of_getElem? er)
      have hf := hp.few _ (List.mem_of_getElem? er)
      have et : p.take (i + 1) = p.take i ++ [x] := by rw [List.take_add_one, er]; rfl
      have ls := pay_len hp (i + 1)
      have lf := pay_len hp i
      have sf := pay_sub hp i
      rw [et, foundP_snoc] at ls ⊢
      generalize foundP a (p.take i) [[]] = F at ls lf sf
      refine ⟨_, _, eg_tup (egs_cons eg_name (egs_cons eg_name egs_nil)) rfl, ?_⟩
      show Eo [some (encP p), some (.int a), some (.list (F.map encP)), some (.int x.1), some (.int x.2), none, none, none] _ _
      refine eo_own (ds := ((F.take 0).flatMap (gAll a x)).map encP) (edf_lst ea_nil (Nat.zero_le _)) rfl (Nat.le_of_ble_eq_true rfl) (eow_for (ds := F.map encP) crL (fun _ => [some (encP p), some (.int a), some (.list (F.map encP)), some (.int x.1), some (.int x.2), none, none, none]) (fun j => ((F.take j).flatMap (gAll a x)).map encP) (eiw_list rfl) ?_ ?_) ?_
      · exact le_of ⟨rfl, rfl, rfl, rfl, rfl, trivial⟩
      · intro j d hd3
        rw [List.getElem?_map] at hd3
        cases ej : F[j]? with
        | none => rw [ej] at hd3; cases hd3
        | some one =>
          rw [ej] at hd3
          cases hd3
          have so := sf one (List.mem_of_getElem? ej)
          have po := so.pb hp.pb
          have lo := po.len
          refine ⟨_, _, eg_name, by decide, noJ0.set (js' := [6]) (noL_encP one) (by simp), ?_⟩
          show Eow CL 5 [some (encP p), some (.int a), some (.list (F.map encP)), some (.int x.1), some (.int x.2), none, some (encP one), none] _ _ _ _
          have e0 : ((F.take j).flatMap (gAll a x) ++ (List.range 0).filterMap (gOne a x one)).map encP = ((F.take j).flatMap (gAll a x)).map encP := by
            rw [List.range_zero, List.filterMap_nil, List.append_nil]
          have e1 : ((F.take j).flatMap (gAll a x) ++ (List.range (upTo (x.2 + 1)).length).filterMap (gOne a x one)).map encP = ((F.take (j + 1)).flatMap (gAll a x)).map encP := by
            have ef : F.take (j + 1) = F.take j ++ [one] := by rw [List.take_add_one, ej]; rfl
            rw [ef, List.flatMap_append, List.flatMap_singleton, upTo_len]
            rfl
          refine Eow.less (Eow.is (Eow.at (eow_for (ds := upTo (x.2 + 1)) crL (fun _ => [some (encP p), some (.int a), some (.list (F.map encP)), some (.int x.1), some (.int x.2), none, some (encP one), none]) (fun u => ((F.take j).flatMap (gAll a x) ++ (List.range u).filterMap (gOne a x one)).map encP) (eiw_range (Ed.w (ed_add (ed_var rfl) ed_int)) (by omega) (by omega)) ?_ ?_) e0) e1) ?_
          · exact le_of ⟨rfl, rfl, rfl, rfl, rfl, rfl, trivial⟩
          · intro u d hd4
            have hu : u < (x.2 + 1).toNat := by
              have := (List.getElem?_eq_some_iff.mp hd4).1
              rw [upTo_len] at this
              exact this
            rw [upTo_get hu] at hd4
            cases hd4
            have pl := part_len (a := a) (x := x) ej (u := u) (by omega)
            refine ⟨_, _, eg_name, by decide, noJ0.set (js' := [7]) rfl (by simp), ?_⟩
            show Eow CL 5 [some (encP p), some (.int a), some (.list (F.map encP)), some (.int x.1), some (.int x.2), none, some (encP one), some (.int (u : Int))] _ _ _ _
            have en : ((F.take j).flatMap (gAll a x) ++ (List.range (u + 1)).filterMap (gOne a x one)).map encP = ((F.take j).flatMap (gAll a x) ++ (List.range u).filterMap (gOne a x one)).map encP ++ ((gOne a x one u).toList).map encP := by
              rw [List.range_succ, List.filterMap_append, ← List.append_assoc, List.map_append]
              congr 1
            have tst := et_test (ed_le (ρ := [some (encP p), some (.int a), some (.list (F.map encP)), some (.int x.1), some (.int x.2), none, some (encP one), some (.int (u : Int))]) (ed_add (ed_call (E := E0) (enc := fun p : Pile => [encP p]) (pre := PB) (out := fun p => .int (sumOf p)) one (ea_cons (ed_var (i := 6) rfl) ea_nil) po) (ed_mul (ed_var (i := 3) rfl) (ed_var (i := 7) rfl) (.inl ⟨by omega, by omega⟩))) (ed_var (i := 1) rfl))
            rw [en]
            by_cases hs : sumOf one + x.1 * (u : Int) ≤ a
            · have eg : gOne a x one u = some (one ++ (if 0 < (u : Int) then [(x.1, (u : Int))] else [])) := by
                unfold gOne
                rw [if_pos hs]
              rw [eg]
              refine Eow.less (eow_if (b := true) crL (Et.w (Et.is tst (decide_eq_true hs))) (fun _ => eow_append (d := encP (one ++ (if 0 < (u : Int) then [(x.1, (u : Int))] else []))) (Ed.w (Ed.is (ed_catT (ed_var rfl) (ed_rep01 (c := decide (0 < (u : Int))) (ed_tup (ea_cons (ed_tup (ea_cons (ed_var rfl) (ea_cons (ed_var rfl) ea_nil)) (Nat.le_of_ble_eq_true rfl)) ea_nil) (Nat.le_of_ble_eq_true rfl)) (ed_intB (ed_gt (ed_var rfl) ed_int))) ?_) ?_)) (noL_encP _) ?_) fun z => nomatch z) (le_of ⟨rfl, rfl, rfl, rfl, rfl, rfl, trivial⟩)
              · rw [List.length_map]
                refine Nat.le_trans (Nat.add_le_add (b := 1000) (d := 1) lo ?_) (by decide)
                split <;> exact Nat.le_of_ble_eq_true rfl
              · unfold encP
                rw [List.map_append]
                by_cases h0 : 0 < (u : Int)
                · rw [if_pos h0, decide_eq_true h0]
                  rfl
                · rw [if_neg h0, decide_eq_false h0]
                  rfl
              · rw [List.length_map]
                omega
            · have eg : gOne a x one u = none := by
                unfold gOne
                rw [if_neg hs]
              rw [eg]
              show Eow _ _ _ _ _ _ (_ ++ [])
              rw [List.append_nil]
              exact Eow.less (eow_if (b := false) crL (Et.w (Et.is tst (decide_eq_false hs))) (fun z => nomatch z) fun _ => eow_next) (le_of ⟨rfl, rfl, rfl, rfl, rfl, rfl, trivial⟩)
          · exact le_of ⟨rfl, rfl, rfl, rfl, rfl, trivial⟩
      · refine Eo.less (eo_set (ed_var rfl)) (le_of ⟨rfl, rfl, ?_, trivial⟩)
        rw [List.length_map, List.take_length]
        rfl
end
end K27
end
section
set_option Elab.async false
set_option linter.all false
set_option maxRecDepth 100000
set_option maxHeartbeats 1000000
namespace K27
open PySem PySem.Spec PyProof.Rows L2

local macro_rules | `(tactic| walk_at "ed") => `(tactic| first
  | exact ed_var rfl | exact ed_int | exact ed_str | exact ed_non | exact ed_bl
  | (apply ed_ixT <;> first | rfl | walk_at "ed")
  | (apply ed_add <;> walk_at "ed")
  | (apply ed_sub <;> walk_at "ed")
  | (apply ed_min2 <;> walk_at "ed")
  | (apply ed_max2 <;> walk_at "ed")
  | (apply ed_eqS <;> walk_at "ed")
  | (apply ed_neS <;> walk_at "ed")
  | (apply ed_isN <;> walk_at "ed")
  | (apply ed_notN <;> walk_at "ed")
  | (apply ed_lt <;> walk_at "ed")
  | (apply ed_le <;> walk_at "ed")
  | (apply ed_gt <;> walk_at "ed")
  | (apply ed_ge <;> walk_at "ed")
  | (apply ed_mul <;> first | walk_at "ed" | skip)
  | (apply ed_in2 <;> walk_at "ed")
  | (apply ed_tup <;> first | (show EdA _ _ _; walk_at "ea") | (simp only [List.length_cons, List.length_nil]; decide) | skip)
  | (apply ed_lst <;> first | (show EdA _ _ _; walk_at "ea") | (simp only [List.length_cons, List.length_nil]; decide) | skip)
  | skip)
local macro_rules | `(tactic| walk_at "ea") => `(tactic| first
  | exact ea_nil
  | (apply ea_cons <;> first | (show EdA _ _ _; walk_at "ea") | walk_at "ed"))
local macro_rules | `(tactic| walk_at "set") => `(tactic| (refine' eo_seq (eo_set ?kz1) ?kz2; (case kz1 => walk_at "ed")))
local macro_rules | `(tactic| walk_at "et") => `(tactic| first
  | (refine' et_test ?kz1; (case kz1 => walk_at "ed"))
  | (refine' et_B ?kz1; (case kz1 => walk_at "ed"))
  | skip)
local macro_rules | `(tactic| walk_at "F") => `(tactic| (refine' eo_seq (eo_ifF (Et.is (et_test ?kz1) ?kz2) eo_next) ?kz3; (case kz1 => walk_at "ed"); (case kz2 => decide)))
local macro_rules | `(tactic| walk_at "T") => `(tactic| (refine' eo_ret1 (eo_ifT (Et.is (et_test ?kz1) ?kz2) (eo_ret ?kz3)); (case kz1 => walk_at "ed"); (case kz2 => decide)))
local macro_rules | `(tactic| walk_at "TB") => `(tactic| (refine' eo_ret1 (eo_ifT (Et.is (et_test ?kz1) ?kz2) ?kz3); (case kz1 => walk_at "ed"); (case kz2 => decide)))

def sumG (g : Int → Int) : Pile → Int
  | [] => 0
  | (w, _) :: p => w * g w + sumG g p
theorem sumG_no {g : Int → Int} {w m : Int} : ∀ {p : Pile}, w ∉ p.map (·.1) → sumG (fun x => if w = x then m else g x) p = sumG g p
  | [], _ => rfl
  | (x, n) :: p, h => by
    rw [List.map_cons, List.mem_cons, not_or] at h
    rw [sumG, sumG, sumG_no h.2, if_neg h.1]
theorem sumG_upd {g : Int → Int} {w m : Int} : ∀ {p : Pile}, (p.map (·.1)).Nodup → w ∈ p.map (·.1) → sumG (fun x => if w = x then m else g x) p = sumG g p + w * (m - g w)
  | (x, n) :: p, nd, h => by
    obtain ⟨n1, n2⟩ := List.nodup_cons.mp nd
    rw [sumG, sumG]
    by_cases e : w = x
    · subst e
      rw [sumG_no n1, if_pos rfl, Int.mul_sub]
      omega
    · rw [if_neg e, sumG_upd n2 ((List.mem_cons.mp h).resolve_left e)]
      omega
theorem sumG_cnt {p : Pile} (nd : (p.map (·.1)).Nodup) : ∀ q : Pile, (q.map (·.1)).Nodup → (∀ x ∈ q, x.1 ∈ p.map (·.1)) → sumG (cnt q) p = sumOf q
  | [], _, _ => by
    have : ∀ p : Pile, sumG (cnt []) p = 0 := fun p => by
      induction p with
      | nil => rfl
      | cons x p ih =>
        obtain ⟨x, n⟩ := x
        rw [sumG, ih]
        show x * 0 + 0 = 0
        omega
    exact this p
  | (w, m) :: r, nq, hm => by
    obtain ⟨n1, n2⟩ := List.nodup_cons.mp nq
    have e : cnt ((w, m) :: r) = fun x => if w = x then m else cnt r x := by
      funext x
      rw [cnt]
    rw [e, sumG_upd nd (hm _ (List.mem_cons_self ..)), sumG_cnt nd r n2 fun x hx => hm x (List.mem_cons_of_mem _ hx), cnt_no n1, sumOf]
    show sumOf r + w * (m - 0) = _
    rw [Int.sub_zero]
    omega
theorem sum_map (g : Int → Int) : ∀ p : Pile, sumOf (p.map fun x => (x.1, x.2 - g x.1)) = sumOf p - sumG g p
  | [] => rfl
  | (x, n) :: p => by
    rw [List.map_cons, sumOf, sumOf, sumG, sum_map g p]
    show x * (n - g x) + _ = _
    rw [Int.mul_sub]
    omega
theorem sum_rest {p q : Pile} (hb : PB p) (hg : Grow p) (hs : Sub p q) : sumOf (takeL p q) = sumOf p - sumOf q := by
  unfold takeL
  rw [sum_filter, sum_map, sumG_cnt hg.nd q hs.grow.nd]
  · intro x hx
    obtain ⟨M, h, _⟩ := hs.at_ x hx
    exact List.mem_map.mpr ⟨_, h, rfl⟩
  · intro x hx
    obtain ⟨y, hy, rfl⟩ := List.mem_map.mp hx
    show 0 ≤ y.2 - cnt q y.1
    by_cases hm : y.1 ∈ q.map (·.1)
    · obtain ⟨z, hz, e⟩ := List.mem_map.mp hm
      obtain ⟨M, h1, h2, h3⟩ := hs.at_ z hz
      have e1 : lk q y.1 = some z.2 := lk_mem hs.grow.nd (by rw [← e]; exact hz)
      have e2 : lk p y.1 = some M := lk_mem hg.nd (by rw [← e]; exact h1)
      have e3 : lk p y.1 = some y.2 := lk_mem hg.nd hy
      rw [e2] at e3
      cases e3
      rw [cnt_lk, e1]
      show 0 ≤ y.2 - z.2
      omega
    · rw [cnt_no hm]
      have := hb.at_ y hy
      omega
mutual
theorem behind_rb {nm : Str} {a : Int} (ha : 0 ≤ a) : ∀ {r l : Rt Str}, rb r → behind r nm a = some l → rb l ∧ dep l ≤ dep r
  | .none, l, _, h => by simp [behind] at h
  | .call x m t, l, h, e => by
    rw [rb] at h
    simp only [behind] at e
    split at e
    · cases e
    · split at e
      · cases e
        rw [rb, dep, dep]
        omega
      · cases e
        rw [rb, dep, dep]
        exact ⟨trivial, Nat.le_refl _⟩
  | .within m r, l, h, e => by
    rw [rb] at h
    simp only [behind] at e
    cases hq : behind r nm a with
    | none => rw [hq] at e; cases e
    | some i =>
      rw [hq] at e
      obtain ⟨g1, g2⟩ := behind_rb ha h.2.2 hq
      simp only at e
      split at e
      · cases e
      · split at e
        · cases e
          rw [rb, dep, dep]
          exact ⟨trivial, by omega⟩
        · cases e
          rw [rb, dep, dep]
          exact ⟨⟨by omega, by omega, g1⟩, by omega⟩
  | .calls k r, l, h, e => by
    rw [rb] at h
    simp only [behind] at e
    cases hq : behind r nm a with
    | none => rw [hq] at e; cases e
    | some i =>
      rw [hq] at e
      obtain ⟨g1, g2⟩ := behind_rb ha h.2.2 hq
      simp only at e
      split at e
      · cases e
      · split at e
        · cases e
          rw [rb, dep, dep]
          exact ⟨trivial, by omega⟩
        · cases e
          rw [rb, dep, dep]
          exact ⟨⟨by omega, by omega, g1⟩, by omega⟩
  | .all rs, l, h, e => by
    rw [rb] at h
    simp only [behind] at e
    cases hq : behindAll rs nm a with
    | none => rw [hq] at e; cases e
    | some i =>
      rw [hq] at e
      cases e
      obtain ⟨g1, g2, g3⟩ := behindAll_rb ha h.2 hq
      rw [rb, dep, dep]
      exact ⟨⟨by omega, g1⟩, by omega⟩
  | .one rs, l, h, e => by
    rw [rb] at h
    simp only [behind] at e
    obtain ⟨g1, g2⟩ := behindOne_rb ha h.2 e
    rw [dep]
    exact ⟨g1, by omega⟩
theorem behindAll_rb {nm : Str} {a : Int} (ha : 0 ≤ a) : ∀ {rs ls : List (Rt Str)}, rbAll rs → behindAll rs nm a = some ls → rbAll ls ∧ deps ls ≤ deps rs ∧ ls.length = rs.length
  | [], ls, _, h => by simp [behindAll] at h
  | r :: rs, ls, h, e => by
    rw [rbAll] at h
    simp only [behindAll] at e
    cases hq : behind r nm a with
    | some i =>
      rw [hq] at e
      cases e
      obtain ⟨g1, g2⟩ := behind_rb ha h.1 hq
      rw [rbAll, deps, deps]
      exact ⟨⟨g1, h.2⟩, by omega, rfl⟩
    | none =>
      rw [hq] at e
      simp only at e
      cases hs : behindAll rs nm a with
      | none => rw [hs] at e; cases e
      | some js =>
        rw [hs] at e
        cases e
        obtain ⟨g1, g2, g3⟩ := behindAll_rb ha h.2 hs
        rw [rbAll, deps, deps]
        exact ⟨⟨h.1, g1⟩, by omega, by rw [List.length_cons, List.length_cons, g3]⟩
theorem behindOne_rb {nm : Str} {a : Int} (ha : 0 ≤ a) : ∀ {rs : List (Rt Str)} {l : Rt Str}, rbAll rs → behindOne rs nm a = some l → rb l ∧ dep l ≤ deps rs
  | [], l, _, h => by simp [behindOne] at h
  | r :: rs, l, h, e => by
    rw [rbAll] at h
    simp only [behindOne] at e
    cases hq : behind r nm a with
    | some i =>
      rw [hq] at e
      cases e
      obtain ⟨g1, g2⟩ := behind_rb ha h.1 hq
      rw [deps]
      exact ⟨g1, by omega⟩
    | none =>
      rw [hq] at e
      obtain ⟨g1, g2⟩ := behindOne_rb ha h.2 e
      rw [deps]
      exact ⟨g1, by omega⟩
end
structure PGood (a : Pile × Rt Str × Str × Int) : Prop where
  pay : PPay a.1 a.2.2.2
  sum : sumOf a.1 ≤ 1000000
  rb : rb a.2.1
  dp : dep a.2.1 ≤ 4
section
variable {P : Program} {w : World} {K : PySem.W.Frag} {mg : Str → Option Value} {base : Heap}
abbrev spGood : Sp := spD (fun a : Pile × Rt Str × Str × Int => [encP a.1, encR a.2.1, .str a.2.2.1, .int a.2.2.2]) PGood fun _ => .bool true
theorem edr_pay {ρ : En} {ta : TA} {E : XK} (p : Pile) (a : Int) (h : EdA ρ ta [encP p, .int a]) (hp : PPay p a) : EdR ρ (tCall spPay [] E ta) (TPay p a) := fun σ H Q s q =>
  h σ H _ s fun vs H1 e1 h1 => ⟨p, a, by rw [List.append_nil]; exact h1, hp, fun v H2 ds e2 h2 ht => q v H2 ds (e1.trans e2) h2 ht⟩
abbrev s_law_good : Stmt := topS 46
abbrev n_law_good : List Str := ["_law_pile", "_law_right_here", "_law_name", "_law_amount", "_law_later", "_law_served", "_law_paying", "_law_left_here"]
theorem sc_law_good : FnScope n_law_good ["_law_pile", "_law_right_here", "_law_name", "_law_amount"] (defScope s_law_good) := ⟨rfl, rfl, rfl, by decide +kernel, rfl, by decide +kernel, by decide +kernel⟩
theorem ok_law_good (D : Dfn K mg "_law_good" s_law_good ["_law_pile", "_law_right_here", "_law_name", "_law_amount"]) (Z : Bi mg) (C_law_behind : Cal P w K mg base "_law_behind" 4 (spBeh 4)) (C_law_sum : Cal P w K mg base "_law_sum" 1 spSum) (C_law_holds : Cal P w K mg base "_law_holds" 5 (spHolds 4))
    (C_law_payings : Cal P w K mg base "_law_payings" 2 spPay) (C_law_left : Cal P w K mg base "_law_left" 1 spLeft) (C_law_told_good : Cal P w K mg base "_law_told_good" 7 spTG) (Cis_safe : Cal P w K mg base "is_safe" 6 spSafe) : Cal P w K mg base "_law_good" 8 spGood := by
  refine D.cal fun f fd F => def_ok F sc_law_good (fun _ => rfl) fun cdv A outer s H E hr => ?_
  refine ⟨_, (pss_cons (ps_set (i := 4) sc_law_good.nd rfl (Or.inl rfl) (pe_cal C_law_behind (hr.mono (by omega)) rfl (pa_cons (pv 1) (pa_cons (pv 2) (pa_cons (pv 3) pa_nil)))))
    (pss_cons (ps_if (PW.pt (pw_or (pt_cmpR op_isN (pv 4) pe_non (nomark _)) (pw_or1 (pt_cmpR op_gt (pv 3) (pe_cal C_law_sum (hr.mono (by omega)) rfl (pa_cons (pv 0) pa_nil)) (nomark _))))) (pss_one (ps_ret pe_bl)) pss_nil)
    (pss_cons (ps_set (i := 5) sc_law_good.nd rfl (Or.inl rfl) (pe_cal C_law_holds (hr.mono (by omega)) rfl (pa_cons (pv 0) (pa_cons (pv 1) pa_nil))))
    (pss_cons (ps_for PassesOwn.never rfl (pi_list (pe_slice sl_list (pe_cal C_law_payings (hr.mono (by omega)) rfl (pa_cons (pv 0) (pa_cons (pv 3) pa_nil))) po_none (po_some pe_int))) (pg_name (i := 6) sc_law_good.nd rfl (Or.inl rfl))
      (pss_cons (ps_set (i := 7) sc_law_good.nd rfl (Or.inl rfl) (pe_cal C_law_left (hr.mono (by omega)) rfl (pa_cons (pv 0) (pa_cons (pv 6) pa_nil))))
    (pss_cons (ps_if (pt_not (pt_val (pe_cal C_law_told_good (hr.mono (by omega)) rfl (pa_cons (pv 0) (pa_cons (pv 6) (pa_cons (pv 7) pa_nil)))))) (pss_one (ps_ret pe_bl)) pss_nil)
    (pss_one (ps_if (PW.pt (pw_and (pt_val (pv 5)) (pw_and (pt_val (pe_cal Cis_safe (hr.mono (by omega)) rfl (pa_cons (pv 0) (pa_cons (pv 6) pa_nil)))) (pw_and1 (pt_not (pt_val (pe_cal C_law_holds (hr.mono (by omega)) rfl (pa_cons (pv 7) (pa_cons (pv 4) pa_nil))))))))) (pss_one (ps_ret pe_bl)) pss_nil)))))
    (pss_one (ps_ret pe_bl)))))), fun a hp => ?_⟩
  obtain ⟨p, r, nm, a⟩ := a
  obtain ⟨hp, hsum, hr1, hr2⟩ := hp
  simp only at hp hsum hr1 hr2
  have hb := hp.pb
  show Eo [some (encP p), some (encR r), some (.str nm), some (.int a), none, none, none, none] _ (.rt (.bool true))
  refine eo_seq (eo_set (ed_call (r, nm, a) (ea_cons (ed_var rfl) (ea_cons (ed_var rfl) (ea_cons (ed_var rfl) ea_nil))) ⟨hr1, hr2⟩)) ?_
  show Eo [some (encP p), some (encR r), some (.str nm), some (.int a), some (optR (behind r nm a)), none, none, none] _ (.rt (.bool true))
  cases hl : behind r nm a with
  | none =>
    exact eo_ret1 (eo_ifT (Et.is (et_or (a := true) (b := true) (et_test (Ed.is (ed_isN (ed_var rfl)) rfl)) fun z => nomatch z) rfl) (eo_ret ed_bl))
  | some l =>
    by_cases hs : a > sumOf p
    · exact eo_ret1 (eo_ifT (Et.is (et_or (a := false) (et_test (Ed.is (ed_isN (ed_var rfl)) (congrArg PyData.bool (isNone_encR l)))) fun _ => et_test (ed_gt (ed_var rfl) (ed_call p (ea_cons (ed_var rfl) ea_nil) hb))) (by rw [decide_eq_true hs]; rfl)) (eo_ret ed_bl))
    · obtain ⟨l1, l2⟩ := behind_rb (Int.le_trans (by decide) hp.one) hr1 hl
      refine eo_seq (eo_ifF (Et.is (et_or (a := false) (et_test (Ed.is (ed_isN (ed_var rfl)) (congrArg PyData.bool (isNone_encR l)))) fun _ => et_test (ed_gt (ed_var rfl) (ed_call p (ea_cons (ed_var rfl) ea_nil) hb))) (by rw [decide_eq_false hs]; rfl)) eo_next) ?_
      refine eo_seq (eo_set (ed_call (p, r) (ea_cons (ed_var rfl) (ea_cons (ed_var rfl) ea_nil)) ⟨hb, hr1, hr2⟩)) ?_
      show Eo [some (encP p), some (encR r), some (.str nm), some (.int a), some (encR l), some (.bool (holds p r)), none, none] _ (.rt (.bool true))
      refine eo_seq (eo_forC (edr_slL (lo := none) (hi := some 12) (edr_pay p a (ea_cons (ed_var rfl) (ea_cons (ed_var rfl) ea_nil)) hp) eo_no (eo_at ed_int)) fun d hd => ?_) (eo_ret ed_bl)
      obtain ⟨q, rfl, hq, hne, hqa⟩ := hd
      have pq : PQ (p, q) := ⟨hb, hp.grow, hp.len, hq⟩
      have ht := take_pb hb hq
      refine ⟨_, _, eg_name, ?_⟩
      show Eo [some (encP p), some (encR r), some (.str nm), some (.int a), some (encR l), some (.bool (holds p r)), some (encP q), none] _ _
      refine eo_seq (eo_set (ed_call (p, q) (ea_cons (ed_var rfl) (ea_cons (ed_var rfl) ea_nil)) pq)) ?_
      show Eo [some (encP p), some (encR r), some (.str nm), some (.int a), some (encR l), some (.bool (holds p r)), some (encP q), some (encP (takeL p q))] _ _
      refine eo_seq (eo_ifF (Et.is (et_not (a := true) (et_test (ed_call (p, q) (ea_cons (ed_var rfl) (ea_cons (ed_var rfl) (ea_cons (ed_var rfl) ea_nil))) ⟨⟨pq, hne⟩, hsum⟩))) rfl) eo_next) ?_
      have fin : ∀ {ρ : En}, ρ[5]? = some (some (.bool (holds p r))) → ρ[0]? = some (some (encP p)) → ρ[6]? = some (some (encP q)) → ρ[7]? = some (some (encP (takeL p q))) → ρ[4]? = some (some (encR l)) →
          Et ρ (tAnd (tTest (tVar 5)) (tAnd (tTest (tCall spSafe [] E0 (tCons (tVar 0) (tCons (tVar 6) tNil)))) (tNot (tTest (tCall (spHolds 4) [] E0 (tCons (tVar 7) (tCons (tVar 4) tNil))))))) false := fun h5 h0 h6 h7 h4 => by
        refine Et.is (et_and (et_test (ed_var h5)) fun z1 => et_and (b := !(holds (takeL p q) l)) (et_test (ed_call (p, q) (ea_cons (ed_var h0) (ea_cons (ed_var h6) ea_nil)) ⟨pq, hne⟩)) fun z2 => et_not (et_test (ed_call (takeL p q, l) (ea_cons (ed_var h7) (ea_cons (ed_var h4) ea_nil)) ⟨ht, l1, by show dep l ≤ 4; omega⟩))) ?_
        cases z1 : holds p r with
        | false => rfl
        | true =>
          cases z2 : (unsA (p, q)).isEmpty with
          | false => rfl
          | true =>
            have hu : unsafeAt p (sumOf q) (takeL p q) = [] := List.isEmpty_iff.mp z2
            rw [hqa] at hu
            have := safe_holds (rb_ok r hr1) hp.one hl z1 (by rw [sum_rest hb hp.grow hq, hqa]) hu
            rw [this]
            rfl
      refine Eo.less (eo_ifF (fin rfl rfl rfl rfl rfl) eo_next) (le_of ⟨rfl, rfl, rfl, rfl, rfl, rfl, trivial⟩)
end
end K27
end
section
set_option Elab.async false
set_option linter.all false
set_option maxRecDepth 100000
set_option maxHeartbeats 1000000
namespace K27
open PySem PySem.Spec PyProof.Rows L2
/-! ## some written things, told by a ghost -/
def erL (ad : List Addr) (H : Hp) : Hp := fun b => if b ∈ ad then none else H b
theorem erL_le (ad : List Addr) (H : Hp) : Same (erL ad H) H := fun b x e => by
  unfold erL at e
  split at e
  · cases e
  · exact e
theorem erL_same {ad : List Addr} {H H' : Hp} (e : Same H H') : Same (erL ad H) (erL ad H') := fun b x h => by
  unfold erL at h ⊢
  split at h
  · cases h
  · rename_i hb
    rw [if_neg hb]
    exact e b x h
theorem erL_upd {ad : List Addr} {H : Hp} {l : Addr} {o : HO} (h : l ∈ ad) : erL ad (upd H l o) = erL ad H := by
  funext b
  unfold erL
  by_cases hb : b ∈ ad
  · rw [if_pos hb, if_pos hb]
  · rw [if_neg hb, if_neg hb]
    exact upd_ne fun z => hb (by rw [z]; exact h)
structure Mu (X : Type) where
  ad : List Addr
  ix : List (Nat × Addr)
  inv : X → Hp → Prop
  ag : ∀ x H H', (∀ a ∈ ad, H' a = H a) → inv x H → inv x H'
  lv : ∀ x H, inv x H → ∀ a ∈ ad, ∃ o, H a = some o
  nf : ∀ x H, inv x H → ∀ a ∈ ad, ∀ p xs, H a ≠ some (.frz p (.tup xs))
theorem Mu.st {X : Type} (M : Mu X) (x : X) (H H' : Hp) (e : Same H H') (iv : M.inv x H) : M.inv x H' := M.ag x H H' (fun a ha => by
  obtain ⟨o, ho⟩ := M.lv x H iv a ha
  rw [ho, e _ _ ho]) iv
theorem Mu.new {X : Type} (M : Mu X) {x : X} {H : Hp} {p : Addr} (iv : M.inv x H) (hp : H p = none) : p ∉ M.ad := fun ha => by
  obtain ⟨o, ho⟩ := M.lv x H iv p ha
  rw [hp] at ho
  cases ho
theorem Mu.upd {X : Type} (M : Mu X) {x : X} {H : Hp} {p : Addr} (o : HO) (iv : M.inv x H) (hp : p ∉ M.ad) : M.inv x (upd H p o) := M.ag x H _ (fun a ha => upd_ne fun z => hp (z ▸ ha)) iv
structure Fr {X : Type} (M : Mu X) (x : X) (H : Hp) (σ : L2.St) (ρ : En) : Prop where
  sg : Sg (erL M.ad H) σ ρ
  vr : ∀ p ∈ M.ix, σ[p.1]? = some (some (.ref p.2))
  iv : M.inv x H
section
variable {X : Type} {M : Mu X} {x : X} {ρ ρ' : En} {te ta tb : TE} {t u : TS} {tt : TT}
theorem Mu.imm {H : Hp} (iv : M.inv x H) : Imm H (erL M.ad H) := fun a p xs e => by
  unfold erL
  by_cases z : a ∈ M.ad
  · exact absurd e (M.nf x H iv a z p xs)
  · rw [if_neg z]
    exact e
/-- from H to H' : the rest stands -/
abbrev Gone (M : Mu X) (H H' : Hp) : Prop := Same (erL M.ad H) (erL M.ad H')
def Em (M : Mu X) (x : X) (ρ : En) (te : TE) (T : X → PD → Prop) : Prop := ∀ (σ : L2.St) (H : Hp) (Q : VK), Fr M x H σ ρ → (∀ v H' y d, Gone M H H' → M.inv y H' → Dv (erL M.ad H') v d → T y d → Q v H') → te σ H Q
def EmA (M : Mu X) (x : X) (ρ : En) (ta : TA) (T : X → List PD → Prop) : Prop := ∀ (σ : L2.St) (H : Hp) (Q : List V → Hp → Prop), Fr M x H σ ρ → (∀ vs H' y ds, Gone M H H' → M.inv y H' → DvAll (erL M.ad H') vs ds → T y ds → Q vs H') → ta σ H Q
def EmT (M : Mu X) (x : X) (ρ : En) (tt : TT) (T : X → Bool → Prop) : Prop := ∀ (σ : L2.St) (H : Hp) (Q : Bool → Hp → Prop), Fr M x H σ ρ → (∀ b H' y, Gone M H H' → M.inv y H' → T y b → Q b H') → tt σ H Q
def Eob (M : Mu X) (x : X) (ρ : En) (t : TS) (N : X → En → Prop) (T : X → PD → Prop) : Prop := ∀ (D : Ends) (σ : L2.St) (H : Hp), Fr M x H σ ρ →
  (∀ σ' H' y ρ', Gone M H H' → Fr M y H' σ' ρ' → N y ρ' → D.nx σ' H') → (∀ v H' y d, Gone M H H' → M.inv y H' → Dv (erL M.ad H') v d → T y d → D.rt v H') → t D σ H
theorem Fr.step {H H' : Hp} {σ : L2.St} {y : X} (f : Fr M x H σ ρ) (g : Gone M H H') (iv : M.inv y H') : Fr M y H' σ ρ := ⟨f.sg.mono g, f.vr, iv⟩
theorem Fr.set {H : Hp} {σ : L2.St} {v : V} {d : PD} {i : Nat} (f : Fr M x H σ ρ) (h : Dv (erL M.ad H) v d) (hi : ∀ p ∈ M.ix, i ≠ p.1) : Fr M x H (σ.set i (some v)) (ρ.set i (some d)) :=
  ⟨f.sg.set i h, fun p hp => by rw [List.getElem?_set_ne (hi p hp)]; exact f.vr p hp, f.iv⟩
theorem Em.pure {d : PD} (h : Ed ρ te d) (hn : noL d = true) : Em M x ρ te (fun y e => y = x ∧ e = d) := fun σ H Q f q => h σ H Q (f.sg.mono (erL_le _ _)) fun v H' e hd => by
  have iv := M.st x _ _ e f.iv
  exact q v H' x d (erL_same e) iv (hd.imm (Mu.imm iv) hn) ⟨rfl, rfl⟩
theorem EmT.pure {b : Bool} (h : Et ρ tt b) : EmT M x ρ tt (fun y c => y = x ∧ c = b) := fun σ H Q f q => h σ H Q (f.sg.mono (erL_le _ _)) fun H' e => q b H' x (erL_same e) (M.st x _ _ e f.iv) ⟨rfl, rfl⟩
theorem Em.imp {T T' : X → PD → Prop} (h : Em M x ρ te T) (i : ∀ y d, T y d → T' y d) : Em M x ρ te T' := fun σ H Q f q => h σ H Q f fun v H' y d g iv hd ht => q v H' y d g iv hd (i y d ht)
theorem Eob.imp {N N' : X → En → Prop} {T : X → PD → Prop} (h : Eob M x ρ t N T) (i : ∀ y e, N y e → N' y e) : Eob M x ρ t N' T := fun D σ H f q r => h D σ H f (fun σ' H' y ρ' g f' n => q σ' H' y ρ' g f' (i y ρ' n)) r
theorem Eob.weak {N : X → En → Prop} {T : X → PD → Prop} (h : Eob M x ρ' t N T) (l : Le ρ' ρ) : Eob M x ρ t N T := fun D σ H f q r => h D σ H ⟨f.sg.le l, f.vr, f.iv⟩ q r
theorem ema_nil : EmA M x ρ tNil (fun y ds => y = x ∧ ds = []) := fun σ H Q f q => q [] H x [] (Same.refl _) f.iv .nil ⟨rfl, rfl⟩
theorem ema_cons {ta : TA} {T : X → PD → Prop} {T' : X → PD → X → List PD → Prop} (h : Em M x ρ te T) (hr : ∀ y d, T y d → EmA M y ρ ta (T' y d)) : EmA M x ρ (tCons te ta) (fun z es => ∃ y d ds, T y d ∧ T' y d z ds ∧ es = d :: ds) := fun σ H Q f q =>
  h σ H _ f fun v H1 y d g1 iv1 h1 t1 => hr y d t1 σ H1 _ (f.step g1 iv1) fun vs H2 z ds g2 iv2 h2 t2 => q _ H2 z _ (g1.trans g2) iv2 (.cons (h1.mono g2) h2) ⟨y, d, ds, t1, t2, rfl⟩
theorem em_tup {ta : TA} {T : X → List PD → Prop} (h : EmA M x ρ ta T) (hz : ∀ y ds, T y ds → ds.length ≤ 1000000 ∧ noLAll ds = true) : Em M x ρ (tTupF ta) (fun y d => ∃ ds, T y ds ∧ d = .tuple ds) := fun σ H Q f q =>
  h σ H _ f fun vs H1 y ds g1 iv1 h1 t1 => ⟨by rw [h1.length]; exact sizes (hz y ds t1).1, fun p o hp ho => by
    have e : Same H1 (upd H1 p (.frz o (.tup vs))) := Same.new hp
    have iv2 := M.st y _ _ e iv1
    have dv : Dv (upd H1 p (.frz o (.tup vs))) (.ref p) (.tuple ds) := .tup ⟨o, upd_same, ho⟩ ((h1.mono (erL_le _ _)).mono e)
    exact q _ _ y _ (g1.trans (erL_same e)) iv2 (dv.imm (Mu.imm iv2) (by simpa [noL] using (hz y ds t1).2)) ⟨ds, t1, rfl⟩⟩
/-- two whole numbers -/
theorem em_op {r : R2} {T1 : X → PD → Prop} {T2 : X → PD → X → PD → Prop} {G : PD → PD → PD} (h1 : Em M x ρ ta T1) (h2 : ∀ y d, T1 y d → Em M y ρ tb (T2 y d))
    (hr : ∀ y d z e, T1 y d → T2 y d z e → noL (G d e) = true ∧ ∀ u v H Q, Dv H u d → Dv H v e → (∀ w H', Same H H' → Dv H' w (G d e) → Q w H') → r u v H Q) : Em M x ρ (tOp r ta tb) (fun z c => ∃ y d e, T1 y d ∧ T2 y d z e ∧ c = G d e) := fun σ H Q f q =>
  h1 σ H _ f fun v H1 y d g1 iv1 k1 t1 => h2 y d t1 σ H1 _ (f.step g1 iv1) fun w H2 z e g2 iv2 k2 t2 => by
    obtain ⟨n, hr⟩ := hr y d z e t1 t2
    refine hr v w H2 Q ((k1.mono g2).mono (erL_le _ _)) (k2.mono (erL_le _ _)) fun c H3 e3 hc => ?_
    have iv3 := M.st z _ _ e3 iv2
    exact q c H3 z _ ((g1.trans g2).trans (erL_same e3)) iv3 (hc.imm (Mu.imm iv3) n) ⟨y, d, e, t1, t2, rfl⟩
def PI (S : Int → Prop) (d : PD) : Prop := ∃ i, d = .int i ∧ S i
theorem em_add {S1 S2 S : Int → Prop} {T1 T2 : X → PD → Prop} (h1 : Em M x ρ ta T1) (k1 : ∀ y d, T1 y d → PI S1 d) (h2 : ∀ y d, T1 y d → Em M y ρ tb T2) (k2 : ∀ y d, T2 y d → PI S2 d) (hS : ∀ i j, S1 i → S2 j → S (i + j)) :
    Em M x ρ (tOp (rI0 fun i j => .int (i + j)) ta tb) (fun z c => PI S c ∧ ∃ e, T2 z e) := by
  refine Em.imp (em_op (G := fun d e => match d, e with | .int i, .int j => .int (i + j) | _, _ => .none) h1 h2 fun y d z e t1 t2 => ?_) fun z c h => ?_
  · obtain ⟨i, rfl, si⟩ := k1 y d t1
    obtain ⟨j, rfl, sj⟩ := k2 z e t2
    refine ⟨rfl, fun u v H Q hu hv q => ?_⟩
    cases hu
    cases hv
    exact ⟨i, j, rfl, rfl, q _ H (Same.refl H) (.int _)⟩
  · obtain ⟨y, d, e, t1, t2, rfl⟩ := h
    obtain ⟨i, rfl, si⟩ := k1 y d t1
    obtain ⟨j, rfl, sj⟩ := k2 z e t2
    exact ⟨⟨_, rfl, hS i j si sj⟩, _, t2⟩
theorem em_sub {S1 S2 S : Int → Prop} {T1 T2 : X → PD → Prop} (h1 : Em M x ρ ta T1) (k1 : ∀ y d, T1 y d → PI S1 d) (h2 : ∀ y d, T1 y d → Em M y ρ tb T2) (k2 : ∀ y d, T2 y d → PI S2 d) (hS : ∀ i j, S1 i → S2 j → S (i - j)) :
    Em M x ρ (tOp (rI0 fun i j => .int (i - j)) ta tb) (fun z c => PI S c ∧ ∃ e, T2 z e) := by
  refine Em.imp (em_op (G := fun d e => match d, e with | .int i, .int j => .int (i - j) | _, _ => .none) h1 h2 fun y d z e t1 t2 => ?_) fun z c h => ?_
  · obtain ⟨i, rfl, si⟩ := k1 y d t1
    obtain ⟨j, rfl, sj⟩ := k2 z e t2
    refine ⟨rfl, fun u v H Q hu hv q => ?_⟩
    cases hu
    cases hv
    exact ⟨i, j, rfl, rfl, q _ H (Same.refl H) (.int _)⟩
  · obtain ⟨y, d, e, t1, t2, rfl⟩ := h
    obtain ⟨i, rfl, si⟩ := k1 y d t1
    obtain ⟨j, rfl, sj⟩ := k2 z e t2
    exact ⟨⟨_, rfl, hS i j si sj⟩, _, t2⟩
theorem em_mul {S1 S2 S : Int → Prop} {T1 T2 : X → PD → Prop} (h1 : Em M x ρ ta T1) (k1 : ∀ y d, T1 y d → PI S1 d) (h2 : ∀ y d, T1 y d → Em M y ρ tb T2) (k2 : ∀ y d, T2 y d → PI S2 d) (hS : ∀ i j, S1 i → S2 j → CMul i j ∧ S (i * j)) :
    Em M x ρ (tOp (rI CMul fun i j => .int (i * j)) ta tb) (fun z c => PI S c ∧ ∃ e, T2 z e) := by
  refine Em.imp (em_op (G := fun d e => match d, e with | .int i, .int j => .int (i * j) | _, _ => .none) h1 h2 fun y d z e t1 t2 => ?_) fun z c h => ?_
  · obtain ⟨i, rfl, si⟩ := k1 y d t1
    obtain ⟨j, rfl, sj⟩ := k2 z e t2
    refine ⟨rfl, fun u v H Q hu hv q => ?_⟩
    cases hu
    cases hv
    exact ⟨i, j, rfl, rfl, (hS i j si sj).1, q _ H (Same.refl H) (.int _)⟩
  · obtain ⟨y, d, e, t1, t2, rfl⟩ := h
    obtain ⟨i, rfl, si⟩ := k1 y d t1
    obtain ⟨j, rfl, sj⟩ := k2 z e t2
    exact ⟨⟨_, rfl, (hS i j si sj).2⟩, _, t2⟩
/-! blocks -/
variable {N N' : X → En → Prop} {T : X → PD → Prop}
theorem eob_next (h : N x ρ) : Eob M x ρ tNext N T := fun D σ H f q r => q σ H x ρ (Same.refl _) f h
theorem eob_seq (h1 : Eob M x ρ t N T) (h2 : ∀ y ρ', N y ρ' → Eob M y ρ' u N' T) : Eob M x ρ (tSeq t u) N' T := fun D σ H f q r =>
  h1 { D with nx := u D } σ H f (fun σ' H' y ρ' g f' n => h2 y ρ' n D σ' H' f' (fun σ2 H2 z ρ2 g2 => q σ2 H2 z ρ2 (g.trans g2)) fun v H2 z d g2 => r v H2 z d (g.trans g2)) r
theorem eob_set {i : Nat} {T0 : X → PD → Prop} (h : Em M x ρ te T0) (hi : ∀ p ∈ M.ix, i ≠ p.1) (hN : ∀ y d, T0 y d → N y (ρ.set i (some d))) : Eob M x ρ (tAsg te (gName i)) N T := fun D σ H f q r =>
  h σ H _ f fun v H1 y d g1 iv1 h1 t1 => q _ H1 y _ g1 ((f.step g1 iv1).set h1 hi) (hN y d t1)
theorem eob_drop {T0 : X → PD → Prop} (h : Em M x ρ te T0) (hN : ∀ y d, T0 y d → N y ρ) : Eob M x ρ (tDrop te) N T := fun D σ H f q r =>
  h σ H _ f fun v H1 y d g1 iv1 h1 t1 => q σ H1 y _ g1 (f.step g1 iv1) (hN y d t1)
theorem eob_ret (h : Em M x ρ te T) : Eob M x ρ (tRet te) N T := fun D σ H f q r => h σ H _ f r
theorem eob_if {B : X → Bool → Prop} (h : EmT M x ρ tt B) (h1 : ∀ y, B y true → Eob M y ρ t N T) (h2 : ∀ y, B y false → Eob M y ρ u N T) : Eob M x ρ (tIfS tt t u) N T := fun D σ H f q r =>
  h σ H _ f fun b H1 y g iv hb => by
    cases b with
    | true => exact h1 y hb D σ H1 (f.step g iv) (fun σ2 H2 z ρ2 g2 => q σ2 H2 z ρ2 (g.trans g2)) fun v H2 z d g2 => r v H2 z d (g.trans g2)
    | false => exact h2 y hb D σ H1 (f.step g iv) (fun σ2 H2 z ρ2 g2 => q σ2 H2 z ρ2 (g.trans g2)) fun v H2 z d g2 => r v H2 z d (g.trans g2)
/-- a loop over things that stand -/
def EmI (M : Mu X) (x : X) (ρ : En) (wi : TI) (ds : List PD) : Prop := ∀ (σ : L2.St) (H : Hp) (R : It → Hp → Prop), Fr M x H σ ρ → (∀ J H1, Gone M H H1 → M.inv x H1 → Wk J (erL M.ad H1) ds → R J H1) → wi σ H R
theorem emi_range {n : Int} (h : Ed ρ te (.int n)) (h1 : -1000000 ≤ n) (h2 : n ≤ 1000000) : EmI M x ρ (iRng1 (tCons te tNil)) (upTo n) := fun σ H R f q => h σ H _ (f.sg.mono (erL_le _ _)) fun v H1 e1 g1 => by
  cases g1
  refine ⟨n, rfl, by omega, by omega, q _ H1 (erL_same e1) (M.st x _ _ e1 f.iv) ⟨fun i H2 e hi => ?_, fun H2 e => ?_, fun i H2 x H3 e hi y => ?_⟩⟩
  · rw [upTo_len] at hi
    exact hi
  · show n.toNat ≤ (upTo n).length
    rw [upTo_len]
    exact Nat.le_refl _
  · rw [upTo_len] at hi
    obtain ⟨rfl, rfl⟩ := y
    refine ⟨Same.refl _, _, upTo_get hi, ?_⟩
    rw [Int.zero_add]
    exact .int _
theorem eob_for {wi : TI} {g : TG} {tb : TS} {ds : List PD} (I : Nat → X → En → Prop) (h : EmI M x ρ wi ds) (h0 : I 0 x ρ)
    (ht : ∀ (i : Nat) (d : PD) (y : X) (ρ1 : En), ds[i]? = some d → I i y ρ1 → ∃ js ρ2, Eg ρ1 g d js ρ2 ∧ (∀ p ∈ M.ix, p.1 ∉ js) ∧ (∀ (j : Nat) (e : PD), ρ2[j]? = some (some e) → (j ∈ js → noL e = true) ∧ (j ∉ js → ρ1[j]? = some (some e))) ∧ Eob M y ρ2 tb (I (i + 1)) T) :
    Eob M x ρ (tFor wi g tb) (I ds.length) T := fun D σ H f q r => h σ H _ f fun J H1 g1 iv1 w => by
  refine ⟨fun i m σ' H' => m = ds.length - i ∧ i ≤ ds.length ∧ Gone M H1 H' ∧ ∃ y ρ1, Fr M y H' σ' ρ1 ∧ I i y ρ1, ⟨_, rfl, Nat.zero_le _, Same.refl _, x, ρ, f.step g1 iv1, h0⟩, ?_⟩
  rintro i m σ2 H2 ⟨rfl, hi, g2, y, ρ1, f2, n2⟩
  have e2 : Same (erL M.ad H1) H2 := g2.trans (erL_le _ _)
  by_cases hlt : i < ds.length
  · refine .inr ⟨w.goes i H2 e2 hlt, fun σ' H' => i + 1 ≤ ds.length ∧ Gone M H1 H' ∧ ∃ y ρ1, Fr M y H' σ' ρ1 ∧ I (i + 1) y ρ1, fun σ' H' p => ⟨ds.length - (i + 1), by omega, rfl, p⟩, fun z H3 yl => ?_⟩
    obtain ⟨e3, d, hd, hx⟩ := w.yields i H2 z H3 e2 hlt yl
    obtain ⟨js, ρ2, k1, k2, k3, k4⟩ := ht i d y ρ1 hd n2
    have iv3 := M.st y _ _ e3 f2.iv
    have f3 : Fr M y H3 σ2 ρ1 := f2.step (erL_same e3) iv3
    refine k1 z σ2 H3 _ (f3.sg.mono (erL_le _ _)) hx fun σ3 s3 l3 q3 => ?_
    have f4 : Fr M y H3 σ3 ρ2 := ⟨⟨s3.len, fun j d' hj => by
      obtain ⟨v, hv, hdv⟩ := s3.at_ j d' hj
      by_cases hm : j ∈ js
      · exact ⟨v, hv, hdv.imm (Mu.imm iv3) ((k3 j d' hj).1 hm)⟩
      · obtain ⟨v', hv', hdv'⟩ := f3.sg.at_ j d' ((k3 j d' hj).2 hm)
        exact ⟨v', (q3 j hm).trans hv', hdv'⟩⟩, fun p hp => (q3 _ (k2 p hp)).trans (f2.vr p hp), iv3⟩
    exact k4 { D with nx := _, ct := _, bk := D.nx } σ3 H3 f4 (fun σ4 H4 y4 ρ4 g4 f5 n5 => ⟨by omega, g2.trans ((erL_same e3).trans g4), y4, ρ4, f5, n5⟩) fun v H4 y4 d4 g4 => r v H4 y4 d4 (g1.trans (g2.trans ((erL_same e3).trans g4)))
  · have hi' : i = ds.length := by omega
    subst hi'
    exact .inl ⟨w.stops H2 e2, q σ2 H2 y ρ1 (g1.trans g2) f2 n2⟩
theorem eob_while {tb : TS} (I : Nat → X → En → Prop) (m0 : Nat) (h0 : I m0 x ρ)
    (ht : ∀ m y ρ1, I m y ρ1 → ∃ B : X → Bool → Prop, EmT M y ρ1 tt B ∧ (∀ z, B z true → Eob M z ρ1 tb (fun z' ρ2 => ∃ m', m' < m ∧ I m' z' ρ2) T) ∧ ∀ z, B z false → N z ρ1) : Eob M x ρ (tWhile tt tb) N T := fun D σ H f q r => by
  refine ⟨fun m σ' H' => Gone M H H' ∧ ∃ y ρ1, Fr M y H' σ' ρ1 ∧ I m y ρ1, ⟨m0, Same.refl _, x, ρ, f, h0⟩, ?_⟩
  rintro m σ2 H2 ⟨g2, y, ρ1, f2, n2⟩
  obtain ⟨B, k1, k2, k3⟩ := ht m y ρ1 n2
  refine k1 σ2 H2 _ f2 fun b H3 z g3 iv3 hb => ?_
  cases b with
  | false => exact q σ2 H3 z ρ1 (g2.trans g3) (f2.step g3 iv3) (k3 z hb)
  | true =>
    refine ⟨fun σ' H' => Gone M H H' ∧ ∃ m', m' < m ∧ ∃ y ρ1, Fr M y H' σ' ρ1 ∧ I m' y ρ1, fun σ' H' p => ?_, ?_⟩
    · obtain ⟨g, m', hm, p⟩ := p
      exact ⟨m', hm, g, p⟩
    · refine k2 z hb { D with nx := _, ct := _, bk := D.nx } σ2 H3 (f2.step g3 iv3) (fun σ4 H4 y4 ρ4 g4 f4 n4 => ?_) fun v H4 y4 d4 g4 => r v H4 y4 d4 (g2.trans (g3.trans g4))
      obtain ⟨m', hm, hI⟩ := n4
      exact ⟨g2.trans (g3.trans g4), m', hm, y4, ρ4, f4, hI⟩
/-- what is walked is made with writing -/
def EmJ (M : Mu X) (x : X) (ρ : En) (wi : TI) (U : List PD → Prop) : Prop := ∀ (σ : L2.St) (H : Hp) (R : It → Hp → Prop), Fr M x H σ ρ → (∀ J H1 ds y, Gone M H H1 → M.inv y H1 → U ds → Wk J (erL M.ad H1) ds → R J H1) → wi σ H R
theorem emj_range {S : Int → Prop} (h : Em M x ρ te (fun _ d => PI S d)) (h1 : ∀ n, S n → -1000000 ≤ n ∧ n ≤ 1000000) : EmJ M x ρ (iRng1 (tCons te tNil)) (fun ds => ∃ n, S n ∧ ds = upTo n) := fun σ H R f q => h σ H _ f fun v H1 y d g1 iv1 hd ht => by
  obtain ⟨n, rfl, hn⟩ := ht
  obtain ⟨l1, l2⟩ := h1 n hn
  cases hd
  refine ⟨n, rfl, by omega, by omega, q _ H1 (upTo n) y g1 iv1 ⟨n, hn, rfl⟩ ⟨fun i H2 e hi => ?_, fun H2 e => ?_, fun i H2 x H3 e hi y => ?_⟩⟩
  · rw [upTo_len] at hi
    exact hi
  · show n.toNat ≤ (upTo n).length
    rw [upTo_len]
    exact Nat.le_refl _
  · rw [upTo_len] at hi
    obtain ⟨rfl, rfl⟩ := y
    refine ⟨Same.refl _, _, upTo_get hi, ?_⟩
    rw [Int.zero_add]
    exact .int _
theorem ema_cons1 {ta : TA} {T : PD → Prop} {TS : List PD → Prop} (h : Em M x ρ te (fun _ d => T d)) (hr : ∀ y, EmA M y ρ ta (fun _ ds => TS ds)) : EmA M x ρ (tCons te ta) (fun _ es => ∃ d ds, T d ∧ TS ds ∧ es = d :: ds) := fun σ H Q f q =>
  h σ H _ f fun v H1 y d g1 iv1 h1 t1 => hr y σ H1 _ (f.step g1 iv1) fun vs H2 z ds g2 iv2 h2 t2 => q _ H2 z _ (g1.trans g2) iv2 (.cons (h1.mono g2) h2) ⟨d, ds, t1, t2, rfl⟩
theorem ema_nil1 : EmA M x ρ tNil (fun _ ds => ds = []) := fun σ H Q f q => q [] H x [] (Same.refl _) f.iv .nil rfl
/-- a comprehension whose items are made with writing -/
theorem em_lc {wi : TI} {g : TG} {vs : List Nat} {U : List PD → Prop} {T0 : PD → Prop} (h : EmJ M x ρ wi U) (hv : ∀ p ∈ M.ix, p.1 ∉ vs) (hz : ∀ ds, U ds → ds.length < 1000000) (hT : ∀ d, T0 d → noL d = true)
    (ht : ∀ (ds : List PD) (i : Nat) (d : PD) (y : X), U ds → ds[i]? = some d → ∃ js ρ2, Eg (wipeE ρ vs) g d js ρ2 ∧ (∀ j ∈ js, j ∈ vs) ∧ (∀ (j : Nat) (e : PD), ρ2[j]? = some (some e) → (j ∈ js → noL e = true) ∧ (j ∉ js → (wipeE ρ vs)[j]? = some (some e))) ∧ Em M y ρ2 te (fun _ d => T0 d)) :
    Em M x ρ (tLc wi g tYes te vs) (fun _ d => ∃ es ds, d = .list es ∧ U ds ∧ es.length = ds.length ∧ ∀ e ∈ es, T0 e) := fun σ H Q f q => h σ H _ f fun J H1 ds x1 g1 iv1 hU w D hD => by
  have hz := hz ds hU
  have hDa : D ∉ M.ad := M.new iv1 hD
  have eD : ∀ {H' : Hp} {o : HO}, H' D = some o → erL M.ad H' D = some o := fun h => by
    unfold erL
    rw [if_neg hDa]
    exact h
  have up : ∀ (H2 : Hp) (o : HO), Gone M H1 H2 → Gone M H1 (upd H2 D o) := fun H2 o e b z hb => by
    have e1 := e b z hb
    unfold erL at e1 ⊢
    split at e1
    · cases e1
    · rename_i hba
      rw [if_neg hba, upd_ne]
      · exact e1
      · intro z'
        subst z'
        unfold erL at hb
        rw [if_neg hDa, hD] at hb
        cases hb
  refine ⟨fun i m H' => m = ds.length - i ∧ i ≤ ds.length ∧ Gone M H1 H' ∧ (∃ y, M.inv y H') ∧ ∃ acc es, H' D = some (.lst acc) ∧ DvAll (erL M.ad H') acc es ∧ es.length = i ∧ ∀ e ∈ es, T0 e,
    ⟨ds.length, by simp, Nat.zero_le _, up _ _ (Same.refl _), ⟨x1, M.upd _ iv1 hDa⟩, [], [], upd_same, .nil, rfl, fun e h => nomatch h⟩, ?_⟩
  rintro i m H2 ⟨rfl, hi, e2, ⟨y, iv2⟩, acc, es, a1, a2, a3, a4⟩
  have s2 : Same (erL M.ad H1) H2 := e2.trans (erL_le _ _)
  by_cases hlt : i < ds.length
  · refine .inr ⟨w.goes i H2 s2 hlt, fun H' => i + 1 ≤ ds.length ∧ Gone M H1 H' ∧ (∃ y, M.inv y H') ∧ ∃ acc es, H' D = some (.lst acc) ∧ DvAll (erL M.ad H') acc es ∧ es.length = i + 1 ∧ ∀ e ∈ es, T0 e, fun H' p => ⟨ds.length - (i + 1), by omega, rfl, p⟩, fun z H3 yl => ?_⟩
    obtain ⟨e3, d, hd, hx⟩ := w.yields i H2 z H3 s2 hlt yl
    obtain ⟨js, ρ2, k1, k2, k3, k4⟩ := ht ds i d y hU hd
    have iv3 := M.st y _ _ e3 iv2
    have g13 : Gone M H H3 := g1.trans (e2.trans (erL_same e3))
    have s3 : Sg (erL M.ad H3) (L2.wipe σ vs) (wipeE ρ vs) := (f.sg.mono g13).wipe vs
    refine k1 z _ H3 _ (s3.mono (erL_le _ _)) hx fun σ2 s4 l4 f4 => ⟨?_, ?_⟩
    · rw [← wipe_wipe σ vs]
      exact wipe_of l4 fun j hj => f4 j fun z => hj (k2 j z)
    · have fr : Fr M y H3 σ2 ρ2 := ⟨⟨s4.len, fun j d' hj => by
        obtain ⟨v, hv', hdv⟩ := s4.at_ j d' hj
        by_cases hm : j ∈ js
        · exact ⟨v, hv', hdv.imm (Mu.imm iv3) ((k3 j d' hj).1 hm)⟩
        · obtain ⟨v', hv', hdv'⟩ := s3.at_ j d' ((k3 j d' hj).2 hm)
          exact ⟨v', (f4 j hm).trans hv', hdv'⟩⟩, fun p hp => by
        rw [f4 _ fun z => hv p hp (k2 _ z), wipe_get, if_neg fun z => hv p hp z.1]
        exact f.vr p hp, iv3⟩
      refine k4 σ2 H3 _ fr fun v H5 y5 d5 g5 iv5 h5 t5 => ?_
      have gD : H5 D = some (.lst acc) := erL_le _ _ _ _ (g5 _ _ (erL_same e3 _ _ (eD a1)))
      have eu : erL M.ad (upd H5 D (.lst (acc ++ [v]))) = upd (erL M.ad H5) D (.lst (acc ++ [v])) := by
        funext b
        by_cases hb : b = D
        · subst hb
          unfold erL
          rw [if_neg hDa]
          exact upd_same.trans upd_same.symm
        · rw [upd_ne hb]
          unfold erL
          split
          · rfl
          · exact upd_ne hb
      have im : Imm (erL M.ad H5) (upd (erL M.ad H5) D (.lst (acc ++ [v]))) := Imm.mut (eD gD)
      have a2' := a2.mono ((erL_same e3).trans g5)
      have hn : noLAll es = true := by
        clear a2 a2' a3
        induction es with
        | nil => rfl
        | cons e es ih =>
          simp only [noLAll, Bool.and_eq_true]
          exact ⟨hT e (a4 e (List.mem_cons_self ..)), ih fun c hc => a4 c (List.mem_cons_of_mem _ hc)⟩
      refine ⟨acc, gD, ?_, by omega, up _ _ (e2.trans ((erL_same e3).trans g5)), ⟨y5, M.upd _ iv5 hDa⟩, acc ++ [v], es ++ [d5], upd_same, ?_, by rw [List.length_append, a3]; rfl, fun e he => ?_⟩
      · rw [a2.length, a3]
        exact Nat.lt_of_lt_of_le (by omega : i < 1000000) (by decide)
      · rw [eu]
        exact (a2'.imm im hn).append (.one (h5.imm im (hT _ t5)))
      · rcases List.mem_append.mp he with he | he
        · exact a4 e he
        · rw [List.mem_singleton.mp he]
          exact t5
  · have hi' : i = ds.length := by omega
    subst hi'
    exact .inl ⟨w.stops H2 s2, q _ H2 y _ (g1.trans e2) iv2 (.lst (eD a1) a2) ⟨es, ds, rfl, hU, a3, a4⟩⟩
end
end K27
end
section
set_option Elab.async false
set_option linter.all false
set_option maxRecDepth 100000
set_option maxHeartbeats 1000000
namespace K27
open PySem PySem.Spec PyProof.Rows L2

local macro_rules | `(tactic| walk_at "ed") => `(tactic| first
  | exact ed_var rfl | exact ed_int | exact ed_str | exact ed_non | exact ed_bl
  | (apply ed_ixT <;> first | rfl | walk_at "ed")
  | (apply ed_add <;> walk_at "ed")
  | (apply ed_sub <;> walk_at "ed")
  | (apply ed_min2 <;> walk_at "ed")
  | (apply ed_max2 <;> walk_at "ed")
  | (apply ed_eqS <;> walk_at "ed")
  | (apply ed_neS <;> walk_at "ed")
  | (apply ed_isN <;> walk_at "ed")
  | (apply ed_notN <;> walk_at "ed")
  | (apply ed_lt <;> walk_at "ed")
  | (apply ed_le <;> walk_at "ed")
  | (apply ed_gt <;> walk_at "ed")
  | (apply ed_ge <;> walk_at "ed")
  | (apply ed_mul <;> first | walk_at "ed" | skip)
  | (apply ed_in2 <;> walk_at "ed")
  | (apply ed_tup <;> first | (show EdA _ _ _; walk_at "ea") | (simp only [List.length_cons, List.length_nil]; decide) | skip)
  | (apply ed_lst <;> first | (show EdA _ _ _; walk_at "ea") | (simp only [List.length_cons, List.length_nil]; decide) | skip)
  | skip)
local macro_rules | `(tactic| walk_at "ea") => `(tactic| first
  | exact ea_nil
  | (apply ea_cons <;> first | (show EdA _ _ _; walk_at "ea") | walk_at "ed"))
local macro_rules | `(tactic| walk_at "set") => `(tactic| (refine' eo_seq (eo_set ?kz1) ?kz2; (case kz1 => walk_at "ed")))
local macro_rules | `(tactic| walk_at "et") => `(tactic| first
  | (refine' et_test ?kz1; (case kz1 => walk_at "ed"))
  | (refine' et_B ?kz1; (case kz1 => walk_at "ed"))
  | skip)
local macro_rules | `(tactic| walk_at "F") => `(tactic| (refine' eo_seq (eo_ifF (Et.is (et_test ?kz1) ?kz2) eo_next) ?kz3; (case kz1 => walk_at "ed"); (case kz2 => decide)))
local macro_rules | `(tactic| walk_at "T") => `(tactic| (refine' eo_ret1 (eo_ifT (Et.is (et_test ?kz1) ?kz2) (eo_ret ?kz3)); (case kz1 => walk_at "ed"); (case kz2 => decide)))
local macro_rules | `(tactic| walk_at "TB") => `(tactic| (refine' eo_ret1 (eo_ifT (Et.is (et_test ?kz1) ?kz2) ?kz3); (case kz1 => walk_at "ed"); (case kz2 => decide)))

/-! ### rights that are drawn -/
inductive Sh : Nat → Rt Str → Prop where
  | none (n : Nat) : Sh n .none
  | call (n : Nat) (nm : Str) (m t : Int) (h1 : 1 ≤ m) (h2 : m ≤ 5) (h3 : 1 ≤ t) (h4 : t ≤ 2) : Sh n (.call nm m t)
  | within (n : Nat) (m : Int) (r : Rt Str) (h1 : 1 ≤ m) (h2 : m ≤ 10) (h : Sh n r) : Sh (n + 1) (.within m r)
  | calls (n : Nat) (m : Int) (r : Rt Str) (h1 : 1 ≤ m) (h2 : m ≤ 3) (h : Sh n r) : Sh (n + 1) (.calls m r)
  | all (n : Nat) (rs : List (Rt Str)) (h1 : rs.length ≤ 3) (h : ∀ r ∈ rs, Sh n r) : Sh (n + 1) (.all rs)
  | one (n : Nat) (rs : List (Rt Str)) (h1 : rs.length ≤ 3) (h : ∀ r ∈ rs, Sh n r) : Sh (n + 1) (.one rs)
theorem Sh.rb {n : Nat} {r : Rt Str} (h : Sh n r) : rb r ∧ dep r ≤ n + 1 := by
  induction h with
  | none n => rw [K27.rb, dep]; exact ⟨trivial, by omega⟩
  | call n nm m t h1 h2 h3 h4 => rw [K27.rb, dep]; omega
  | within n m r h1 h2 h ih => rw [K27.rb, dep]; exact ⟨⟨h1, by omega, ih.1⟩, by omega⟩
  | calls n m r h1 h2 h ih => rw [K27.rb, dep]; exact ⟨⟨h1, by omega, ih.1⟩, by omega⟩
  | all n rs h1 h ih =>
    rw [K27.rb, dep]
    have := deps_of fun r hr => (ih r hr).2
    exact ⟨⟨by omega, rbAll_of fun r hr => (ih r hr).1⟩, by omega⟩
  | one n rs h1 h ih =>
    rw [K27.rb, dep]
    have := deps_of fun r hr => (ih r hr).2
    exact ⟨⟨by omega, rbAll_of fun r hr => (ih r hr).1⟩, by omega⟩
theorem namesRs_len {B : Nat} : ∀ {rs : List (Rt Str)}, (∀ r ∈ rs, (namesR r).length ≤ B) → (namesRs rs).length ≤ rs.length * B
  | [], _ => by rw [namesRs]; exact Nat.zero_le _
  | r :: rs, h => by
    have a := h r (List.mem_cons_self ..)
    have b := namesRs_len fun q hq => h q (List.mem_cons_of_mem _ hq)
    rw [namesRs, List.length_append, List.length_cons, Nat.succ_mul]
    omega
theorem Sh.names {n : Nat} {r : Rt Str} (h : Sh n r) : (namesR r).length ≤ 3 ^ n := by
  induction h with
  | none n => rw [namesR]; exact Nat.zero_le _
  | call n nm m t h1 h2 h3 h4 => rw [namesR]; exact Nat.pow_pos (by decide)
  | within n m r h1 h2 h ih => rw [namesR, Nat.pow_succ]; omega
  | calls n m r h1 h2 h ih => rw [namesR, Nat.pow_succ]; omega
  | all n rs h1 h ih =>
    have := namesRs_len ih
    have q : rs.length * 3 ^ n ≤ 3 * 3 ^ n := Nat.mul_le_mul_right _ h1
    rw [namesR, Nat.pow_succ]
    omega
  | one n rs h1 h ih =>
    have := namesRs_len ih
    have q : rs.length * 3 ^ n ≤ 3 * 3 ^ n := Nat.mul_le_mul_right _ h1
    rw [namesR, Nat.pow_succ]
    omega
theorem rwAll_le {B : Int} : ∀ {rs : List (Rt Str)} {acc : Nat → Int} {A : Int}, (∀ r ∈ rs, ∀ j, rw r .none j ≤ B) → (∀ j, acc j ≤ A) → ∀ j, rwAll rs .none acc j ≤ A + rs.length * B
  | [], acc, A, _, h, j => by
    rw [rwAll]
    have := h j
    simp only [List.length_nil]
    omega
  | r :: rs, acc, A, hr, h, j => by
    rw [rwAll]
    have q := rwAll_le (A := A + B) (fun q hq => hr q (List.mem_cons_of_mem _ hq)) (acc := conv acc fun i => rw r .none i) (fun j => conv_le fun i hi => by
      have a := h i
      have b := hr r (List.mem_cons_self ..) (j - i)
      omega) j
    rw [List.length_cons]
    have e : ((rs.length + 1 : Nat) : Int) * B = (rs.length : Int) * B + B := by
      rw [Int.natCast_add, Int.add_mul]
      simp
    omega
theorem rwOne_le {B : Int} : ∀ {rs : List (Rt Str)} {acc : Nat → Int}, (∀ r ∈ rs, ∀ j, rw r .none j ≤ B) → (∀ j, acc j ≤ B) → ∀ j, rwOne rs .none acc j ≤ B
  | [], acc, _, h, j => by
    rw [rwOne]
    exact h j
  | r :: rs, acc, hr, h, j => by
    rw [rwOne]
    refine rwOne_le (fun q hq => hr q (List.mem_cons_of_mem _ hq)) (fun j => ?_) j
    have a := h j
    have b := hr r (List.mem_cons_self ..) j
    omega
theorem topSum_le {B : Int} : ∀ {rs : List (Rt Str)}, (∀ r ∈ rs, top r .none ≤ B) → topSum rs .none ≤ rs.length * B
  | [], _ => by
    rw [topSum]
    simp
  | r :: rs, h => by
    have a := h r (List.mem_cons_self ..)
    have b := topSum_le fun q hq => h q (List.mem_cons_of_mem _ hq)
    rw [topSum, List.length_cons]
    have e : ((rs.length + 1 : Nat) : Int) * B = (rs.length : Int) * B + B := by
      rw [Int.natCast_add, Int.add_mul]
      simp
    omega
theorem topMax_le {B : Int} (hB : 0 ≤ B) : ∀ {rs : List (Rt Str)}, (∀ r ∈ rs, top r .none ≤ B) → topMax rs .none ≤ B
  | [], _ => by
    rw [topMax]
    exact hB
  | r :: rs, h => by
    have a := h r (List.mem_cons_self ..)
    have b := topMax_le hB fun q hq => h q (List.mem_cons_of_mem _ hq)
    rw [topMax]
    omega
def bnd : Nat → Int
  | 0 => 10
  | n + 1 => 3 * bnd n
theorem bnd_pos : ∀ n, 10 ≤ bnd n
  | 0 => Int.le_refl _
  | n + 1 => by
    have := bnd_pos n
    rw [bnd]
    omega
theorem Sh.bd {n : Nat} {r : Rt Str} (h : Sh n r) : (∀ j, rw r .none j ≤ bnd n) ∧ top r .none ≤ bnd n := by
  induction h with
  | none n =>
    have := bnd_pos n
    refine ⟨fun j => ?_, ?_⟩
    · rw [rw]; omega
    · rw [top]; omega
  | call n nm m t h1 h2 h3 h4 =>
    have := bnd_pos n
    have e : t * m ≤ 2 * 5 := Int.mul_le_mul h4 h2 (by omega) (by decide)
    refine ⟨fun j => ?_, ?_⟩
    · rw [rw]
      show min t (j : Int) * m ≤ _
      have e2 : min t (j : Int) * m ≤ t * m := Int.mul_le_mul_of_nonneg_right (by omega) (by omega)
      omega
    · rw [top]
      show t * m ≤ _
      omega
  | within n m r h1 h2 h ih =>
    have := bnd_pos n
    refine ⟨fun j => ?_, ?_⟩
    · rw [rw, bnd]; omega
    · rw [top, bnd]; omega
  | calls n m r h1 h2 h ih =>
    have := bnd_pos n
    refine ⟨fun j => ?_, ?_⟩
    · rw [rw, bnd]
      have := ih.1 (min j m.toNat)
      omega
    · rw [top, bnd]
      have := ih.1 (min m (len r)).toNat
      omega
  | all n rs h1 h ih =>
    have hp := bnd_pos n
    have e : (rs.length : Int) * bnd n ≤ 3 * bnd n := Int.mul_le_mul_of_nonneg_right (by omega) (by omega)
    refine ⟨fun j => ?_, ?_⟩
    · rw [rw, bnd]
      have := rwAll_le (acc := fun _ => 0) (A := 0) (fun r hr => (ih r hr).1) (fun _ => Int.le_refl _) j
      omega
    · rw [top, bnd]
      have := topSum_le fun r hr => (ih r hr).2
      omega
  | one n rs h1 h ih =>
    have hp := bnd_pos n
    refine ⟨fun j => ?_, ?_⟩
    · rw [rw, bnd]
      have := rwOne_le (acc := fun _ => 0) (fun r hr => (ih r hr).1) (fun _ => by omega) j
      omega
    · rw [top, bnd]
      have := topMax_le (by omega) fun r hr => (ih r hr).2
      omega
/-! ### digits -/
def Dg (d : Addr) (H : Hp) : Prop := ∃ n : Int, 0 ≤ n ∧ H d = some (.lst [.int n])
abbrev spTk : Sp := fun vs H Q _ => ∃ (d : Addr) (size n : Int), vs = [.ref d, .int size] ∧ 1 ≤ size ∧ size ≤ 1000000 ∧ 0 ≤ n ∧ H d = some (.lst [.int n]) ∧ ∀ i m : Int, 0 ≤ i → i < size → 0 ≤ m → Q (.int i) (upd H d (.lst [.int m]))
section
variable {P : Program} {w : World} {K : PySem.W.Frag} {mg : Str → Option Value} {base : Heap}
abbrev s_law_take : Stmt := topS 25
abbrev n_law_take : List Str := ["_law_pile", "_law_size", "_law_digit"]
theorem sc_law_take : FnScope n_law_take ["_law_pile", "_law_size"] (defScope s_law_take) := ⟨rfl, rfl, rfl, by decide +kernel, rfl, by decide +kernel, by decide +kernel⟩
theorem ok_law_take (D : Dfn K mg "_law_take" s_law_take ["_law_pile", "_law_size"]) (Z : Bi mg) : Cal P w K mg base "_law_take" 1 spTk := by
  refine D.cal fun f fd F => F.ok sc_law_take (fun vs H Q E h => ?_) (fun cdv A outer s H vs Q E hr h => ?_)
  · obtain ⟨d, size, n, rfl, _⟩ := h
    rfl
  obtain ⟨d, size, n, rfl, h1, h2, h3, h4, h5⟩ := h
  refine ⟨_, (pss_cons (ps_set (i := 2) sc_law_take.nd rfl (Or.inl rfl) (pe_op op_mod (pe_ix ix_list (pv 0) pe_int (fun _ _ => rfl)) (pv 1)))
    (pss_cons (ps_asg (pe_op op_fdiv (pe_ix ix_list (pv 0) pe_int (fun _ _ => rfl)) (pv 1)) (pg_sub (pv 0) pe_int set_list))
    (pss_one (ps_ret (pv 2))))), ?_⟩
  have ix : atI [V.int n] 0 = some (V.int n) := rfl
  refine ⟨.ref d, rfl, d, [.int n], 0, .int n, rfl, rfl, SqL.of h4, ix, .int size, rfl, n, size, rfl, rfl, by omega, ?_⟩
  refine ⟨.ref d, rfl, d, [.int n], 0, .int n, rfl, rfl, SqL.of h4, ix, .int size, rfl, n, size, rfl, rfl, ⟨by omega, by omega⟩, ?_⟩
  refine ⟨.ref d, rfl, d, [.int n], 0, 0, rfl, rfl, h4, rfl, ?_⟩
  exact ⟨.int (n % size), rfl, h5 _ _ (Int.emod_nonneg _ (by omega)) (Int.emod_lt_of_pos _ (by omega)) (Int.ediv_nonneg h3 (by omega))⟩
theorem em_take {X : Type} {M : Mu X} {x : X} {ρ : En} {tn : TE} {k : Nat} {d : Addr} {size : Int} (hk : (k, d) ∈ M.ix) (hd : d ∈ M.ad) (hM : ∀ x H, M.inv x H → Dg d H ∧ ∀ m : Int, 0 ≤ m → M.inv x (upd H d (.lst [.int m]))) (hn : Ed ρ tn (.int size)) (h1 : 1 ≤ size) (h2 : size ≤ 1000000) :
    Em M x ρ (tCall spTk [] E0 (tCons (tVar k) (tCons tn tNil))) (fun y c => y = x ∧ PI (fun i => 0 ≤ i ∧ i < size) c) := fun σ H Q f q =>
  ⟨.ref d, f.vr _ hk, hn σ H _ (f.sg.mono (erL_le _ _)) fun v H1 e1 g => by
    cases g
    have iv := M.st x _ _ e1 f.iv
    obtain ⟨⟨n, n0, hn⟩, up⟩ := hM x H1 iv
    refine ⟨d, size, n, rfl, h1, h2, n0, hn, fun i m hi hs hm => q _ _ x (.int i) ?_ (up m hm) (.int i) ⟨rfl, i, rfl, hi, hs⟩⟩
    show Same (erL M.ad H) (erL M.ad (upd H1 d (.lst [.int m])))
    rw [erL_upd hd]
    exact erL_same e1⟩
end
section
variable {X : Type} {M : Mu X} {x : X} {ρ : En} {ta tb te : TE} {S1 S2 S : Int → Prop}
theorem emi1 {i : Int} (h : Ed ρ te (.int i)) (hs : S i) : Em M x ρ te (fun _ d => PI S d) := Em.imp (Em.pure h rfl) fun _ _ e => ⟨i, e.2, hs⟩
theorem em_add1 (h1 : Em M x ρ ta (fun _ d => PI S1 d)) (h2 : ∀ y, Em M y ρ tb (fun _ d => PI S2 d)) (hS : ∀ i j, S1 i → S2 j → S (i + j)) : Em M x ρ (tOp (rI0 fun i j => .int (i + j)) ta tb) (fun _ c => PI S c) :=
  Em.imp (em_add h1 (fun _ _ h => h) (fun y _ _ => h2 y) (fun _ _ h => h) hS) fun _ _ h => h.1
theorem em_sub1 (h1 : Em M x ρ ta (fun _ d => PI S1 d)) (h2 : ∀ y, Em M y ρ tb (fun _ d => PI S2 d)) (hS : ∀ i j, S1 i → S2 j → S (i - j)) : Em M x ρ (tOp (rI0 fun i j => .int (i - j)) ta tb) (fun _ c => PI S c) :=
  Em.imp (em_sub h1 (fun _ _ h => h) (fun y _ _ => h2 y) (fun _ _ h => h) hS) fun _ _ h => h.1
theorem em_mul1 (h1 : Em M x ρ ta (fun _ d => PI S1 d)) (h2 : ∀ y, Em M y ρ tb (fun _ d => PI S2 d)) (hS : ∀ i j, S1 i → S2 j → CMul i j ∧ S (i * j)) : Em M x ρ (tOp (rI CMul fun i j => .int (i * j)) ta tb) (fun _ c => PI S c) :=
  Em.imp (em_mul h1 (fun _ _ h => h) (fun y _ _ => h2 y) (fun _ _ h => h) hS) fun _ _ h => h.1
theorem em_take1 {tn : TE} {k : Nat} {d : Addr} {size : Int} (hk : (k, d) ∈ M.ix) (hd : d ∈ M.ad) (hM : ∀ x H, M.inv x H → Dg d H ∧ ∀ m : Int, 0 ≤ m → M.inv x (upd H d (.lst [.int m]))) (hn : Ed ρ tn (.int size)) (h1 : 1 ≤ size) (h2 : size ≤ 1000000) :
    Em M x ρ (tCall spTk [] E0 (tCons (tVar k) (tCons tn tNil))) (fun _ c => PI (fun i => 0 ≤ i ∧ i < size) c) := Em.imp (em_take hk hd hM hn h1 h2) fun _ _ h => h.2
end
/-- digits and spare names -/
def MuDS (d s : Addr) (hds : d ≠ s) : Mu (List Str) where
  ad := [d, s]
  ix := [(0, d), (2, s)]
  inv xs H := Dg d H ∧ H s = some (.lst (xs.map .str)) ∧ ∀ x ∈ xs, PyData.canLay0 (.str x) = true
  ag x H H' h iv := by
    obtain ⟨⟨n, n0, hn⟩, hs, hl⟩ := iv
    exact ⟨⟨n, n0, by rw [h d (by simp)]; exact hn⟩, by rw [h s (by simp)]; exact hs, hl⟩
  lv x H iv a ha := by
    obtain ⟨⟨n, n0, hn⟩, hs, hl⟩ := iv
    rcases List.mem_cons.mp ha with rfl | ha
    · exact ⟨_, hn⟩
    · rw [List.mem_singleton.mp ha]
      exact ⟨_, hs⟩
  nf x H iv a ha p xs := by
    obtain ⟨⟨n, n0, hn⟩, hs, hl⟩ := iv
    rcases List.mem_cons.mp ha with rfl | ha
    · rw [hn]
      exact fun z => nomatch z
    · rw [List.mem_singleton.mp ha, hs]
      exact fun z => nomatch z
theorem MuDS.dg {d s : Addr} {hds : d ≠ s} : ∀ x H, (MuDS d s hds).inv x H → Dg d H ∧ ∀ m : Int, 0 ≤ m → (MuDS d s hds).inv x (upd H d (.lst [.int m])) := fun x H iv =>
  ⟨iv.1, fun m hm => ⟨⟨m, hm, upd_same⟩, by rw [upd_ne (Ne.symm hds)]; exact iv.2.1, iv.2.2⟩⟩
theorem dpAll_strs {K : PySem.W.Frag} {H : Hp} : ∀ xs : List Str, DpAll K H (xs.map V.str) (xs.map .str)
  | [] => .nil
  | x :: xs => .cons (.str x) (dpAll_strs xs)
theorem lay_strs : ∀ l : List Str, (∀ x ∈ l, PyData.canLay0 (.str x) = true) → PyData.canLayAll0 (l.map .str) = true ∧ PyData.depthAll (l.map .str) = 0
  | [], _ => ⟨rfl, rfl⟩
  | x :: l, h => by
    obtain ⟨h1, h2⟩ := lay_strs l fun y hy => h y (List.mem_cons_of_mem _ hy)
    refine ⟨?_, ?_⟩
    · rw [List.map_cons]
      simp only [PyData.canLayAll0, h1, Bool.and_true]
      exact h x (List.mem_cons_self ..)
    · rw [List.map_cons]
      simp only [PyData.depthAll, h2]
      rfl
section
variable {P : Program} {w : World} {K : PySem.W.Frag} {mg : Str → Option Value} {base : Heap} {d s : Addr} {hds : d ≠ s} {xs : List Str} {ρ : En}
theorem emt_spare : EmT (MuDS d s hds) xs ρ (tTest (tOp (rEqD K) (tVar 2) (tLst tNil))) (fun y b => y = xs ∧ b = decide (xs = [])) := fun σ H Q f q => by
  obtain ⟨hd, hs, hl⟩ := f.iv
  obtain ⟨l1, l2⟩ := lay_strs xs hl
  refine ⟨.ref s, f.vr (2, s) (by simp [MuDS]), by show 0 ≤ sizeLine; exact Nat.zero_le _, fun p hp => ?_⟩
  have e : Same H (upd H p (.lst [])) := Same.new hp
  refine ⟨.list (xs.map .str), .list [], .lst (SqL.of (e _ _ hs)) (dpAll_strs xs), .lst (SqL.of upd_same) .nil, ?_, rfl, decide (xs = []), ?_, ?_⟩
  · unfold SeqAt.shaped
    rw [Bool.and_eq_true]
    refine ⟨?_, decide_eq_true ?_⟩
    · simp only [PyData.canLay0]
      exact l1
    · simp only [PyData.depth, l2]
      decide
  · congr 1
    cases xs <;> rfl
  · exact q _ _ xs (erL_same e) ((MuDS d s hds).st _ _ _ e f.iv) ⟨rfl, rfl⟩
theorem em_pop {x : Str} : Em (MuDS d s hds) (x :: xs) ρ (tBM K "list" rPopAt (tVar 2) (tCons (tC (.int 0)) tNil)) (fun _ c => c = .str x) := fun σ H Q f q => by
  obtain ⟨hd, hs, hl⟩ := f.iv
  refine ⟨.ref s, f.vr (2, s) (by simp [MuDS]), .inl ⟨rfl, _, SqL.of hs⟩, s, (x :: xs).map .str, 0, 0, .str x, rfl, rfl, hs, by decide, by decide, by simp [seqIndex?], rfl, ?_⟩
  refine q _ _ xs (.str x) ?_ ⟨?_, upd_same, fun y hy => hl y (List.mem_cons_of_mem _ hy)⟩ (.str x) rfl
  · show Same (erL _ H) (erL _ (upd H s _))
    rw [erL_upd (by simp [MuDS])]
    exact Same.refl _
  · obtain ⟨n, n0, hn⟩ := hd
    exact ⟨n, n0, by rw [upd_ne hds]; exact hn⟩
abbrev spRt (k : Nat) : Sp := fun vs H Q _ => ∃ (d s : Addr) (hds : d ≠ s) (xs : List Str), vs = [.ref d, .int (k : Int), .ref s, .int 5] ∧ (MuDS d s hds).inv xs H ∧
  ∀ v H' ys r, Gone (MuDS d s hds) H H' → (MuDS d s hds).inv ys H' → Dv (erL (MuDS d s hds).ad H') v (encR r) → Sh k r → Q v H'
theorem em_rt {k : Nat} (h1 : ρ[1]? = some (some (.int ((k + 1 : Nat) : Int)))) (h3 : ρ[3]? = some (some (.int 5))) :
    Em (MuDS d s hds) xs ρ (tCall (spRt k) [] E0 (tCons (tVar 0) (tCons (tOp (rI0 fun i j => .int (i - j)) (tVar 1) (tC (.int 1))) (tCons (tVar 2) (tCons (tVar 3) tNil))))) (fun _ c => ∃ r, c = encR r ∧ Sh k r) := fun σ H Q f q => by
  have sg := f.sg.mono (erL_le _ _)
  refine ⟨.ref d, f.vr (0, d) (by simp [MuDS]), (Ed.is (ed_sub (ed_var h1) ed_int) (show PyData.int (((k + 1 : Nat) : Int) - 1) = .int (k : Int) by congr 1; omega)) σ H _ sg fun v H1 e1 g => ?_⟩
  cases g
  refine ⟨.ref s, f.vr (2, s) (by simp [MuDS]), ed_var h3 σ H1 _ (sg.mono e1) fun v H2 e2 g => ?_⟩
  cases g
  have e := e1.trans e2
  exact ⟨d, s, hds, xs, rfl, (MuDS d s hds).st _ _ _ e f.iv, fun v H' ys r g iv hd sh => q v H' ys (encR r) ((erL_same e).trans g) iv hd ⟨r, rfl, sh⟩⟩
def spPrev : Nat → Sp
  | 0 => fun _ _ _ _ => False
  | k + 1 => spRt k
theorem noL_int {S : Int → Prop} {d : PD} (h : PI S d) : noL d = true := by
  obtain ⟨i, rfl, _⟩ := h
  rfl
abbrev s_law_right : Stmt := topS 34
abbrev n_law_right : List Str := ["_law_digits", "_law_deep", "_law_spare", "_law_size", "_law_way", "_law_parts", "_law_k"]
theorem sc_law_right : FnScope n_law_right ["_law_digits", "_law_deep", "_law_spare", "_law_size"] (defScope s_law_right) := ⟨rfl, rfl, rfl, by decide +kernel, rfl, by decide +kernel, by decide +kernel⟩
theorem ok_law_right1 (D : Dfn K mg "_law_right" s_law_right ["_law_digits", "_law_deep", "_law_spare", "_law_size"]) (Z : Bi mg) (C_law_take : Cal P w K mg base "_law_take" 1 spTk) (k : Nat) (C_law_right : Cal P w K mg base "_law_right" (k + 1) (spPrev k)) : Cal P w K mg base "_law_right" (k + 2) (spRt k) := by
  refine D.cal fun f fd F => F.ok sc_law_right (fun vs H Q E h => ?_) (fun cdv A outer s0 H vs Q E hr h => ?_)
  · obtain ⟨d, s, hds, xs, rfl, _⟩ := h
    rfl
  obtain ⟨d, s, hds, xs, rfl, hiv, h5⟩ := h
  refine ⟨_, (pss_cons (ps_set (i := 4) sc_law_right.nd rfl (Or.inl rfl) (pe_cal C_law_take (hr.mono (by omega)) rfl (pa_cons (pv 0) (pa_cons pe_int pa_nil))))
    (pss_cons (ps_if (pt_cmpR (op_eqD hr.units) (pv 2) (pe_lst pa_nil) (nomark _)) (pss_one (ps_ret (pe_tupF (pa_cons pe_str pa_nil)))) pss_nil)
    (pss_cons (ps_if (PW.pt (pw_or (pt_cmpR op_lt (pv 1) pe_int (nomark _)) (pw_or1 (pt_cmpR op_lt (pv 4) pe_int (nomark _))))) (pss_one (ps_ret (pe_tupF (pa_cons pe_str (pa_cons (pe_bm PySem.F.plainAttrs_list PySem.F.slot_list_pop PySem.F.type_list_pop mt_popAt (pv 2) (pa_cons pe_int pa_nil)) (pa_cons (pe_op op_add pe_int (pe_cal C_law_take (hr.mono (by omega)) rfl (pa_cons (pv 0) (pa_cons (pv 3) pa_nil)))) (pa_cons (pe_op op_add pe_int (pe_op op_mul (pe_cal C_law_take (hr.mono (by omega)) rfl (pa_cons (pv 0) (pa_cons pe_int pa_nil))) (pe_callTy call_int1 rfl Z.int bt_int (pa_cons (pe_cmpR op_eq (pv 4) pe_int (nomark _)) pa_nil)))) pa_nil))))))) pss_nil)
    (pss_cons (ps_if (pt_cmpR op_eq (pv 4) pe_int (nomark _)) (pss_one (ps_ret (pe_tupF (pa_cons pe_str (pa_cons (pe_op op_add pe_int (pe_cal C_law_take (hr.mono (by omega)) rfl (pa_cons (pv 0) (pa_cons (pe_op op_mul pe_int (pv 3)) pa_nil)))) (pa_cons (pe_cal C_law_right (hr.mono (by omega)) rfl (pa_cons (pv 0) (pa_cons (pe_op op_sub (pv 1) pe_int) (pa_cons (pv 2) (pa_cons (pv 3) pa_nil))))) pa_nil)))))) pss_nil)
    (pss_cons (ps_if (pt_cmpR op_eq (pv 4) pe_int (nomark _)) (pss_one (ps_ret (pe_tupF (pa_cons pe_str (pa_cons (pe_op op_add pe_int (pe_cal C_law_take (hr.mono (by omega)) rfl (pa_cons (pv 0) (pa_cons pe_int pa_nil)))) (pa_cons (pe_cal C_law_right (hr.mono (by omega)) rfl (pa_cons (pv 0) (pa_cons (pe_op op_sub (pv 1) pe_int) (pa_cons (pv 2) (pa_cons (pv 3) pa_nil))))) pa_nil)))))) pss_nil)
    (pss_cons (ps_setLc (i := 5) (own := [("_law_k", 6)]) (g := (gName 6)) (tt := tYes) rfl sc_law_right.nd rfl rfl (sw_true rfl rfl rfl (by decide +kernel)) (pi_range1 rfl Z.range (pa_cons (pe_op op_add pe_int (pe_cal C_law_take (hr.mono (by omega)) rfl (pa_cons (pv 0) (pa_cons pe_int pa_nil)))) pa_nil)) (blkOk_by (own := [("_law_k", 6)]) (N := n_law_right) (sc := defScope s_law_right) (by decide +kernel)) (fun _ _ _ _ _ => (pg_name (i := 6) sc_law_right.nd rfl (Or.inl rfl))) (fun _ _ _ _ _ => pts_nil) (fun _ _ _ _ _ => (pe_cal C_law_right (hr.mono (by omega)) rfl (pa_cons (pv 0) (pa_cons (pe_op op_sub (pv 1) pe_int) (pa_cons (pv 2) (pa_cons (pv 3) pa_nil)))))))
    (pss_one (ps_ret (pe_tupF (pa_cons (pe_ix ix_list (pe_lst (pa_cons pe_str (pa_cons pe_str (pa_cons pe_str pa_nil)))) (pe_op op_sub (pv 4) pe_int) (fun _ _ => rfl)) (pa_cons (pe_callTy call_tupleF rfl Z.tuple bt_tuple (pa_cons (pv 5) pa_nil)) pa_nil))))))))))), ?_⟩
  suffices hh : Eob (MuDS d s hds) xs [none, some (.int (k : Int)), none, some (.int 5), none, none, none] _ (fun _ _ => False) (fun _ c => ∃ r, c = encR r ∧ Sh k r) by
    refine hh _ _ H ⟨⟨rfl, fun i e h => ?_⟩, fun p hp => ?_, hiv⟩ (fun σ' H' y ρ' g f' n => n.elim) fun v H' y e g iv hd ht => ?_
    · rcases i with _ | _ | _ | _ | _ | _ | _ | i <;> simp at h
      · subst h
        exact ⟨_, rfl, .int _⟩
      · subst h
        exact ⟨_, rfl, .int _⟩
    · have : p = (0, d) ∨ p = (2, s) := by simpa [MuDS] using hp
      rcases this with rfl | rfl <;> rfl
    · obtain ⟨r, rfl, sh⟩ := ht
      exact h5 v H' y r g iv hd sh
  have ix0 : (0, d) ∈ (MuDS d s hds).ix := by simp [MuDS]
  have ad0 : d ∈ (MuDS d s hds).ad := by simp [MuDS]
  have nix : ∀ j, 3 ≤ j → ∀ p ∈ (MuDS d s hds).ix, j ≠ p.1 := fun j hj p hp => by
    have : p = (0, d) ∨ p = (2, s) := by simpa [MuDS] using hp
    rcases this with rfl | rfl <;> (simp only; omega)
  refine eob_seq (eob_set (N := fun y ρ' => ∃ i : Int, 0 ≤ i ∧ i < 7 ∧ y = xs ∧ ρ' = [none, some (.int (k : Int)), none, some (.int 5), some (.int i), none, none]) (em_take ix0 ad0 MuDS.dg ed_int (by decide) (by decide)) (nix 4 (by decide)) ?_) ?_
  · rintro y e ⟨rfl, i, rfl, h1, h2⟩
    exact ⟨i, h1, h2, rfl, rfl⟩
  rintro y ρ' ⟨i, i1, i2, hy, rfl⟩
  obtain rfl : xs = y := hy.symm
  refine eob_seq (eob_if (N := fun y ρ' => y = xs ∧ xs ≠ [] ∧ ρ' = [none, some (.int (k : Int)), none, some (.int 5), some (.int i), none, none]) emt_spare ?_ ?_) ?_
  · rintro y ⟨hy, hb⟩
    obtain rfl : xs = y := hy.symm
    exact eob_ret (Em.imp (Em.pure (ed_tup (ea_cons ed_str ea_nil) (Nat.le_of_ble_eq_true rfl)) rfl) fun y e h => ⟨.none, h.2, .none k⟩)
  · rintro y ⟨hy, hb⟩
    obtain rfl : xs = y := hy.symm
    exact eob_next ⟨rfl, of_decide_eq_false hb.symm, rfl⟩
  rintro y ρ' ⟨hy, hne, rfl⟩
  obtain rfl : xs = y := hy.symm
  refine eob_seq (eob_if (N := fun y ρ' => y = xs ∧ 1 ≤ k ∧ 2 ≤ i ∧ ρ' = [none, some (.int (k : Int)), none, some (.int 5), some (.int i), none, none]) (EmT.pure (et_or (et_test (ed_lt (ed_var rfl) ed_int)) fun _ => et_test (ed_lt (ed_var rfl) ed_int))) ?_ ?_) ?_
  · rintro y ⟨hy, hb⟩
    obtain rfl : xs = y := hy.symm
    cases xs with
    | nil => exact absurd rfl hne
    | cons nm xs =>
      refine eob_ret (Em.imp (em_tup (ema_cons (T' := fun _ _ _ es => ∃ d ds, (d = .str nm) ∧ (∃ d' ds', PI (fun m => 1 ≤ m ∧ m ≤ 5) d' ∧ (∃ d2 ds2, PI (fun t => 1 ≤ t ∧ t ≤ 2) d2 ∧ ds2 = [] ∧ ds' = d2 :: ds2) ∧ ds = d' :: ds') ∧ es = d :: ds) (Em.pure ed_str rfl) ?_) ?_) ?_)
      · rintro y e ⟨rfl, rfl⟩
        refine ema_cons1 em_pop fun y => ema_cons1 (em_add1 (S1 := fun i => i = 1) (S2 := fun i => 0 ≤ i ∧ i < 5) (emi1 ed_int rfl) (fun y => em_take1 ix0 ad0 MuDS.dg (ed_var rfl) (by decide) (by decide)) fun a b h1 h2 => by omega) fun y => ema_cons1 (em_add1 (S1 := fun i => i = 1) (S2 := fun i => 0 ≤ i ∧ i ≤ 1) (emi1 ed_int rfl) (fun y => em_mul1 (S1 := fun i => 0 ≤ i ∧ i < 2) (S2 := fun i => 0 ≤ i ∧ i ≤ 1) (em_take1 ix0 ad0 MuDS.dg ed_int (by decide) (by decide)) (fun y => emi1 (ed_intB (ed_eqI (ed_var rfl) ed_int)) (by split <;> omega)) fun a b h1 h2 => ?_) fun a b h1 h2 => by omega) fun y => ema_nil1
        refine ⟨.inl ⟨by omega, by omega⟩, ?_⟩
        have ha : a = 0 ∨ a = 1 := by omega
        have hb : b = 0 ∨ b = 1 := by omega
        rcases ha with rfl | rfl <;> rcases hb with rfl | rfl <;> decide
      · rintro y es ⟨_, e, ds, ⟨_, rfl⟩, ⟨d1, ds1, rfl, ⟨d2, ds2, ⟨m, rfl, _⟩, ⟨d3, ds3, ⟨t, rfl, _⟩, rfl, rfl⟩, rfl⟩, rfl⟩, rfl⟩
        exact ⟨Nat.le_of_ble_eq_true rfl, rfl⟩
      · rintro y c ⟨es, ⟨_, e, ds, ⟨_, rfl⟩, ⟨d1, ds1, rfl, ⟨d2, ds2, ⟨m, rfl, m1, m2⟩, ⟨d3, ds3, ⟨t, rfl, t1, t2⟩, rfl, rfl⟩, rfl⟩, rfl⟩, rfl⟩, rfl⟩
        exact ⟨.call nm m t, rfl, .call k nm m t m1 m2 t1 t2⟩
  · rintro y ⟨hy, hb⟩
    obtain rfl : xs = y := hy.symm
    refine eob_next ⟨rfl, ?_, ?_, rfl⟩
    · have := (Bool.or_eq_false_iff.mp hb.symm).1
      have := of_decide_eq_false this
      omega
    · have := (Bool.or_eq_false_iff.mp hb.symm).2
      have := of_decide_eq_false this
      omega
  rintro y ρ' ⟨hy, hk, hi, rfl⟩
  obtain rfl : xs = y := hy.symm
  cases k with
  | zero => omega
  | succ k =>
    have two : ∀ {nm : Str} {B : Int} {y : List Str} {tn : TE} {ρ : En} (hn : Ed ρ tn (.int B)) (hB : 1 ≤ B ∧ B ≤ 1000000) (r1 : ρ[1]? = some (some (.int ((k + 1 : Nat) : Int)))) (r3 : ρ[3]? = some (some (.int 5))),
        Em (MuDS d s hds) y ρ (tTupF (tCons (tC (.str nm)) (tCons (tOp (rI0 fun i j => .int (i + j)) (tC (.int 1)) (tCall spTk [] E0 (tCons (tVar 0) (tCons tn tNil)))) (tCons (tCall (spRt k) [] E0 (tCons (tVar 0) (tCons (tOp (rI0 fun i j => .int (i - j)) (tVar 1) (tC (.int 1))) (tCons (tVar 2) (tCons (tVar 3) tNil))))) tNil))))
          (fun _ c => ∃ m r, c = .tuple [.str nm, .int m, encR r] ∧ 1 ≤ m ∧ m ≤ B ∧ Sh k r) := fun {nm B y tn ρ} hn hB r1 r3 => by
      refine Em.imp (em_tup (ema_cons1 (T := fun c => c = .str nm) (Em.imp (Em.pure ed_str rfl) fun _ _ h => h.2) fun y => ema_cons1 (T := PI fun m => 1 ≤ m ∧ m ≤ B) (em_add1 (S1 := fun i => i = 1) (S2 := fun i => 0 ≤ i ∧ i < B) (emi1 ed_int rfl) (fun y => em_take1 ix0 ad0 MuDS.dg hn hB.1 hB.2) fun a b h1 h2 => by omega) fun y => ema_cons1 (em_rt r1 r3) fun y => ema_nil1) ?_) ?_
      · rintro y es ⟨_, _, rfl, ⟨_, _, ⟨m, rfl, _⟩, ⟨_, _, ⟨r, rfl, _⟩, rfl, rfl⟩, rfl⟩, rfl⟩
        refine ⟨Nat.le_of_ble_eq_true rfl, ?_⟩
        simp only [noLAll, noL, encR_noL, Bool.and_true]
      · rintro y c ⟨_, ⟨_, _, rfl, ⟨_, _, ⟨m, rfl, m1, m2⟩, ⟨_, _, ⟨r, rfl, sh⟩, rfl, rfl⟩, rfl⟩, rfl⟩, rfl⟩
        exact ⟨m, r, rfl, m1, m2, sh⟩
    refine eob_seq (eob_if (N := fun y ρ' => ρ' = [none, some (.int ((k + 1 : Nat) : Int)), none, some (.int 5), some (.int i), none, none] ∧ i ≠ 2) (EmT.pure (et_test (ed_eqI (ed_var rfl) ed_int))) ?_ ?_) ?_
    · rintro y ⟨rfl, hb⟩
      refine eob_ret (Em.imp (two (B := 10) (Ed.is (ed_mul (i := 2) (j := 5) ed_int (ed_var rfl) (.inl ⟨by decide, by decide⟩)) rfl) (by decide) rfl rfl) ?_)
      rintro y c ⟨m, r, rfl, m1, m2, sh⟩
      exact ⟨.within m r, by rw [encR], .within k m r m1 m2 sh⟩
    · rintro y ⟨rfl, hb⟩
      exact eob_next ⟨rfl, of_decide_eq_false hb.symm⟩
    rintro y ρ' ⟨rfl, n2⟩
    refine eob_seq (eob_if (N := fun y ρ' => ρ' = [none, some (.int ((k + 1 : Nat) : Int)), none, some (.int 5), some (.int i), none, none] ∧ i ≠ 3) (EmT.pure (et_test (ed_eqI (ed_var rfl) ed_int))) ?_ ?_) ?_
    · rintro y ⟨rfl, hb⟩
      refine eob_ret (Em.imp (two (B := 3) ed_int (by decide) rfl rfl) ?_)
      rintro y c ⟨m, r, rfl, m1, m2, sh⟩
      exact ⟨.calls m r, by rw [encR], .calls k m r m1 m2 sh⟩
    · rintro y ⟨rfl, hb⟩
      exact eob_next ⟨rfl, of_decide_eq_false hb.symm⟩
    rintro y ρ' ⟨rfl, n3⟩
    refine eob_seq (eob_set (N := fun y ρ' => ∃ rs : List (Rt Str), rs.length ≤ 3 ∧ (∀ r ∈ rs, Sh k r) ∧ ρ' = [none, some (.int ((k + 1 : Nat) : Int)), none, some (.int 5), some (.int i), some (.list (rs.map encR)), none]) (em_lc (T0 := fun c => ∃ r, c = encR r ∧ Sh k r) (emj_range (S := fun n => 1 ≤ n ∧ n ≤ 3) (em_add1 (S1 := fun i => i = 1) (S2 := fun i => 0 ≤ i ∧ i < 3) (emi1 ed_int rfl) (fun y => em_take1 ix0 ad0 MuDS.dg ed_int (by decide) (by decide)) fun a b h1 h2 => by omega) fun n h => by omega) ?_ ?_ ?_ ?_) (nix 5 (by decide)) ?_) ?_
    · intro p hp hm
      have := nix 6 (by decide) p hp
      exact this (List.mem_singleton.mp hm).symm
    · rintro ds ⟨n, hn, rfl⟩
      rw [upTo_len]
      omega
    · rintro c ⟨r, rfl, _⟩
      exact encR_noL r
    · rintro ds j e y ⟨n, hn, rfl⟩ he
      have hj : j < n.toNat := by
        have := (List.getElem?_eq_some_iff.mp he).1
        rw [upTo_len] at this
        exact this
      rw [upTo_get hj] at he
      cases he
      exact ⟨_, _, eg_name, by decide, noJ0.set (js' := [6]) rfl (by simp), em_rt rfl rfl⟩
    · rintro y c ⟨es, ds, rfl, ⟨n, hn, rfl⟩, hl, he⟩
      obtain ⟨rs, e1, e2⟩ : ∃ rs : List (Rt Str), es = rs.map encR ∧ ∀ r ∈ rs, Sh k r := by
        clear hl
        induction es with
        | nil => exact ⟨[], rfl, fun r h => nomatch h⟩
        | cons c es ih =>
          obtain ⟨rs, e1, e2⟩ := ih fun e h => he e (List.mem_cons_of_mem _ h)
          obtain ⟨r, h1, h2⟩ := he c (List.mem_cons_self ..)
          refine ⟨r :: rs, by rw [e1, h1]; rfl, fun q hq => ?_⟩
          rcases List.mem_cons.mp hq with rfl | hq
          · exact h2
          · exact e2 q hq
      subst e1
      rw [List.length_map, upTo_len] at hl
      exact ⟨rs, by omega, e2, rfl⟩
    rintro y ρ' ⟨rs, hl, hsh, rfl⟩
    have hw : i = 4 ∨ i = 5 ∨ i = 6 := by omega
    have nlp : ∀ nm : Str, noL (.tuple [.str nm, .tuple (rs.map encR)]) = true := fun nm => by
      rw [← encRs_map]
      simp only [noL, noLAll, encRs_noL, Bool.and_true]
    have fin : ∀ {j : Int} {nm : Str} {q : Rt Str}, i - 4 = j → atI [PyData.str "all", .str "one", .str "all"] j = some (.str nm) → PyData.tuple [.str nm, .tuple (rs.map encR)] = encR q → Sh (k + 1) q → Eob (MuDS d s hds) y [none, some (.int ((k + 1 : Nat) : Int)), none, some (.int 5), some (.int i), some (.list (rs.map encR)), none] (tRet (tTupF (tCons (tOp (rIxL K) (tLst (tCons (tC (.str "all")) (tCons (tC (.str "one")) (tCons (tC (.str "all")) tNil)))) (tOp (rI0 fun i j => .int (i - j)) (tVar 4) (tC (.int 4)))) (tCons (tCB (rTupF K) (tCons (tVar 5) tNil)) tNil)))) (fun _ _ => False) (fun _ c => ∃ r, c = encR r ∧ Sh (k + 1) r) := fun {j nm q} hj hn hq hs => by
      refine eob_ret (Em.imp (Em.pure (d := .tuple [.str nm, .tuple (rs.map encR)]) (ed_tup (ea_cons ?_ (ea_cons (ed_tupOf (ed_var rfl)) ea_nil)) (Nat.le_of_ble_eq_true rfl)) (nlp nm)) fun _ _ h => ⟨q, h.2.trans hq, hs⟩)
      exact ed_ixL (ed_lst (ea_cons ed_str (ea_cons ed_str (ea_cons ed_str ea_nil))) (Nat.le_of_ble_eq_true rfl)) (Ed.is (ed_sub (ed_var rfl) ed_int) (congrArg PyData.int hj)) hn
    rcases hw with hw | hw | hw
    · exact fin (j := 0) (nm := "all") (q := .all rs) (by omega) rfl (by rw [encR, encRs_map]) (.all k rs hl hsh)
    · exact fin (j := 1) (nm := "one") (q := .one rs) (by omega) rfl (by rw [encR, encRs_map]) (.one k rs hl hsh)
    · exact fin (j := 2) (nm := "all") (q := .all rs) (by omega) rfl (by rw [encR, encRs_map]) (.all k rs hl hsh)
theorem ok_law_right (D : Dfn K mg "_law_right" s_law_right ["_law_digits", "_law_deep", "_law_spare", "_law_size"]) (Z : Bi mg) (C_law_take : Cal P w K mg base "_law_take" 1 spTk) : ∀ k : Nat, Cal P w K mg base "_law_right" (k + 2) (spRt k)
  | 0 => ok_law_right1 D Z C_law_take 0 (D.vac fun _ _ _ _ h => h)
  | k + 1 => ok_law_right1 D Z C_law_take (k + 1) (ok_law_right D Z C_law_take k)
end
end K27
end
section
set_option Elab.async false
set_option linter.all false
set_option maxRecDepth 100000
set_option maxHeartbeats 1000000
namespace K27
open PySem PySem.Spec PyProof.Rows L2

local macro_rules | `(tactic| walk_at "ed") => `(tactic| first
  | exact ed_var rfl | exact ed_int | exact ed_str | exact ed_non | exact ed_bl
  | (apply ed_ixT <;> first | rfl | walk_at "ed")
  | (apply ed_add <;> walk_at "ed")
  | (apply ed_sub <;> walk_at "ed")
  | (apply ed_min2 <;> walk_at "ed")
  | (apply ed_max2 <;> walk_at "ed")
  | (apply ed_eqS <;> walk_at "ed")
  | (apply ed_neS <;> walk_at "ed")
  | (apply ed_isN <;> walk_at "ed")
  | (apply ed_notN <;> walk_at "ed")
  | (apply ed_lt <;> walk_at "ed")
  | (apply ed_le <;> walk_at "ed")
  | (apply ed_gt <;> walk_at "ed")
  | (apply ed_ge <;> walk_at "ed")
  | (apply ed_mul <;> first | walk_at "ed" | skip)
  | (apply ed_in2 <;> walk_at "ed")
  | (apply ed_tup <;> first | (show EdA _ _ _; walk_at "ea") | (simp only [List.length_cons, List.length_nil]; decide) | skip)
  | (apply ed_lst <;> first | (show EdA _ _ _; walk_at "ea") | (simp only [List.length_cons, List.length_nil]; decide) | skip)
  | skip)
local macro_rules | `(tactic| walk_at "ea") => `(tactic| first
  | exact ea_nil
  | (apply ea_cons <;> first | (show EdA _ _ _; walk_at "ea") | walk_at "ed"))
local macro_rules | `(tactic| walk_at "set") => `(tactic| (refine' eo_seq (eo_set ?kz1) ?kz2; (case kz1 => walk_at "ed")))
local macro_rules | `(tactic| walk_at "et") => `(tactic| first
  | (refine' et_test ?kz1; (case kz1 => walk_at "ed"))
  | (refine' et_B ?kz1; (case kz1 => walk_at "ed"))
  | skip)
local macro_rules | `(tactic| walk_at "F") => `(tactic| (refine' eo_seq (eo_ifF (Et.is (et_test ?kz1) ?kz2) eo_next) ?kz3; (case kz1 => walk_at "ed"); (case kz2 => decide)))
local macro_rules | `(tactic| walk_at "T") => `(tactic| (refine' eo_ret1 (eo_ifT (Et.is (et_test ?kz1) ?kz2) (eo_ret ?kz3)); (case kz1 => walk_at "ed"); (case kz2 => decide)))
local macro_rules | `(tactic| walk_at "TB") => `(tactic| (refine' eo_ret1 (eo_ifT (Et.is (et_test ?kz1) ?kz2) ?kz3); (case kz1 => walk_at "ed"); (case kz2 => decide)))

/-! ### a heap of coins as a pile -/
def addC (p : Pile) (c : Int) : Pile := match p.reverse with
  | [] => [(c, 1)]
  | x :: r => if x.1 = c then ((c, x.2 + 1) :: r).reverse else ((c, 1) :: x :: r).reverse
theorem addC_nil (c : Int) : addC [] c = [(c, 1)] := rfl
theorem addC_snoc (q : Pile) (x : Int × Int) (c : Int) : addC (q ++ [x]) c = if x.1 = c then q ++ [(c, x.2 + 1)] else q ++ [x] ++ [(c, 1)] := by
  unfold addC
  rw [List.reverse_append]
  show (if x.1 = c then ((c, x.2 + 1) :: q.reverse).reverse else ((c, 1) :: x :: q.reverse).reverse) = _
  split
  · rw [List.reverse_cons, List.reverse_reverse]
  · rw [List.reverse_cons, List.reverse_cons, List.reverse_reverse]
def heapP (l : List Int) : Pile := l.foldl addC []
theorem heapP_snoc (l : List Int) (c : Int) : heapP (l ++ [c]) = addC (heapP l) c := by
  unfold heapP
  rw [List.foldl_append]
  rfl
def tot : Pile → Int
  | [] => 0
  | (_, m) :: p => m + tot p
theorem tot_app (p q : Pile) : tot (p ++ q) = tot p + tot q := by
  induction p with
  | nil =>
    show tot q = 0 + tot q
    omega
  | cons x p ih =>
    obtain ⟨x, m⟩ := x
    show m + tot (p ++ q) = m + tot p + tot q
    rw [ih]
    omega
structure HI (l : List Int) (p : Pile) : Prop where
  grow : Grow p
  at_ : ∀ x ∈ p, x.1 ∈ l ∧ 1 ≤ x.2
  tot : tot p = l.length
theorem snoc_cases {α : Type} : ∀ l : List α, l = [] ∨ ∃ q x, l = q ++ [x]
  | [] => .inl rfl
  | a :: l => by
    rcases snoc_cases l with rfl | ⟨q, x, rfl⟩
    · exact .inr ⟨[], a, rfl⟩
    · exact .inr ⟨a :: q, x, rfl⟩
theorem HI.step {l : List Int} {p : Pile} {c : Int} (h : HI l p) (hc : ∀ n ∈ l, n ≤ c) : HI (l ++ [c]) (addC p c) := by
  rcases snoc_cases p with rfl | ⟨q, x, rfl⟩
  · refine ⟨List.pairwise_singleton .., fun x hx => ?_, ?_⟩
    · rw [addC_nil] at hx
      rw [List.mem_singleton.mp hx]
      exact ⟨List.mem_append_right _ (List.mem_singleton.mpr rfl), Int.le_refl _⟩
    · have := h.tot
      simp only [K27.tot] at this
      rw [addC_nil, List.length_append]
      simp only [K27.tot, List.length_singleton]
      omega
  · have ht := h.tot
    have hx := h.at_ x (List.mem_append_right _ (List.mem_singleton.mpr rfl))
    have hg := List.pairwise_append.mp h.grow
    rw [tot_app] at ht
    obtain ⟨w, m⟩ := x
    simp only [K27.tot] at ht
    rw [addC_snoc]
    by_cases e : w = c
    · rw [if_pos e]
      refine ⟨List.pairwise_append.mpr ⟨hg.1, List.pairwise_singleton .., fun y hy z hz => ?_⟩, fun y hy => ?_, ?_⟩
      · rw [List.mem_singleton.mp hz]
        have := hg.2.2 y hy (w, m) (List.mem_singleton.mpr rfl)
        rw [← e]
        exact this
      · rcases List.mem_append.mp hy with hy | hy
        · have := h.at_ y (List.mem_append_left _ hy)
          exact ⟨List.mem_append_left _ this.1, this.2⟩
        · rw [List.mem_singleton.mp hy]
          exact ⟨List.mem_append_right _ (List.mem_singleton.mpr rfl), by have := hx.2; simp only at this ⊢; omega⟩
      · rw [tot_app, List.length_append]
        simp only [K27.tot, List.length_singleton]
        omega
    · rw [if_neg e]
      have hlt : w < c := by
        have := hc _ hx.1
        simp only at this
        omega
      refine ⟨List.pairwise_append.mpr ⟨h.grow, List.pairwise_singleton .., fun y hy z hz => ?_⟩, fun y hy => ?_, ?_⟩
      · rw [List.mem_singleton.mp hz]
        rcases List.mem_append.mp hy with hy | hy
        · have := hg.2.2 y hy (w, m) (List.mem_singleton.mpr rfl)
          simp only at this ⊢
          omega
        · rw [List.mem_singleton.mp hy]
          exact hlt
      · rcases List.mem_append.mp hy with hy | hy
        · have := h.at_ y hy
          exact ⟨List.mem_append_left _ this.1, this.2⟩
        · rw [List.mem_singleton.mp hy]
          exact ⟨List.mem_append_right _ (List.mem_singleton.mpr rfl), Int.le_refl _⟩
      · rw [tot_app, tot_app, List.length_append]
        simp only [K27.tot, List.length_singleton]
        omega
theorem heap_hi : ∀ (n : Nat) (l : List Int), l.length = n → l.Pairwise (· ≤ ·) → HI l (heapP l)
  | n, l, hn, hs => by
    rcases snoc_cases l with rfl | ⟨q, c, rfl⟩
    · exact ⟨List.Pairwise.nil, fun x h => (nomatch h), rfl⟩
    · rw [heapP_snoc]
      have hl : q.length < n := by
        rw [List.length_append, List.length_singleton] at hn
        omega
      have hs' := List.pairwise_append.mp hs
      exact (heap_hi q.length q rfl hs'.1).step fun m hm => hs'.2.2 m hm c (List.mem_singleton.mpr rfl)
termination_by n => n
theorem tot_len {q : Pile} (h : ∀ x ∈ q, 1 ≤ x.2) : (q.length : Int) ≤ tot q := by
  induction q with
  | nil => exact Int.le_refl _
  | cons x q ih =>
    obtain ⟨w, m⟩ := x
    have h1 := ih fun y hy => h y (List.mem_cons_of_mem _ hy)
    have h0 := h (w, m) (List.mem_cons_self ..)
    rw [List.length_cons]
    simp only [tot] at h0 ⊢
    omega
/-- what the law needs to know of such a pile -/
structure Few (p : Pile) (n : Nat) : Prop where
  grow : Grow p
  at_ : ∀ x ∈ p, 1 ≤ x.1 ∧ x.1 ≤ 1000 ∧ 1 ≤ x.2
  tot : tot p ≤ n
theorem Few.cnt {p : Pile} {n : Nat} (h : Few p n) : (p.length : Int) ≤ n ∧ (∀ x ∈ p, x.2 ≤ n) ∧ sumOf p ≤ 1000 * n := by
  have key : ∀ q : Pile, (∀ x ∈ q, 1 ≤ x.1 ∧ x.1 ≤ 1000 ∧ 1 ≤ x.2) → (q.length : Int) ≤ K27.tot q ∧ (∀ x ∈ q, x.2 ≤ K27.tot q) ∧ sumOf q ≤ 1000 * K27.tot q := fun q => by
    induction q with
    | nil => exact fun _ => ⟨Int.le_refl _, fun x hx => (nomatch hx), Int.le_refl _⟩
    | cons x q ih =>
      intro hq
      obtain ⟨w, m⟩ := x
      obtain ⟨a1, a2, a3⟩ := ih fun y hy => hq y (List.mem_cons_of_mem _ hy)
      have h0 := hq (w, m) (List.mem_cons_self ..)
      simp only at h0
      have e : w * m ≤ 1000 * m := Int.mul_le_mul_of_nonneg_right h0.2.1 (by omega)
      refine ⟨?_, fun y hy => ?_, ?_⟩
      · rw [List.length_cons]
        simp only [K27.tot]
        omega
      · simp only [K27.tot]
        rcases List.mem_cons.mp hy with rfl | hy
        · have : (0 : Int) ≤ q.length := Int.natCast_nonneg _
          simp only
          omega
        · have := a2 y hy
          omega
      · rw [sumOf]
        simp only [K27.tot]
        omega
  obtain ⟨a1, a2, a3⟩ := key p h.at_
  have ht := h.tot
  exact ⟨by omega, fun x hx => by have := a2 x hx; omega, by omega⟩
theorem Few.pb {p : Pile} {n : Nat} (h : Few p n) (hn : n ≤ 1000) : PB p := by
  obtain ⟨a1, a2, a3⟩ := h.cnt
  refine ⟨by omega, fun x hx => ?_⟩
  have b1 := h.at_ x hx
  have b2 := a2 x hx
  omega
def coinsP (p : Pile) : List Int := p.flatMap fun x => List.replicate x.2.toNat x.1
theorem coins_len {p : Pile} (h : ∀ x ∈ p, 1 ≤ x.2) : ((coinsP p).length : Int) = tot p := by
  induction p with
  | nil => rfl
  | cons x p ih =>
    obtain ⟨w, m⟩ := x
    have h0 := h (w, m) (List.mem_cons_self ..)
    have h1 := ih fun y hy => h y (List.mem_cons_of_mem _ hy)
    unfold coinsP at h1 ⊢
    rw [List.flatMap_cons, List.length_append, List.length_replicate]
    simp only [tot] at h0 ⊢
    omega
theorem rep_ints (w : Int) : ∀ k : Nat, (List.replicate k [PyData.int w]).flatten = (List.replicate k w).map .int
  | 0 => rfl
  | k + 1 => by
    rw [List.replicate_succ, List.flatten_cons, rep_ints w k, List.replicate_succ]
    rfl
section
variable {P : Program} {w : World} {K : PySem.W.Frag} {mg : Str → Option Value} {base : Heap}
abbrev spCoins : Sp := spD (fun p : Pile => [encP p]) (fun p => PB p ∧ tot p ≤ 1000) fun p => .list ((coinsP p).map .int)
abbrev s_law_coins : Stmt := topS 29
abbrev n_law_coins : List Str := ["_law_pile", "_law_found", "_law_worth", "_law_many"]
theorem sc_law_coins : FnScope n_law_coins ["_law_pile"] (defScope s_law_coins) := ⟨rfl, rfl, rfl, by decide +kernel, rfl, by decide +kernel, by decide +kernel⟩
theorem ok_law_coins (D : Dfn K mg "_law_coins" s_law_coins ["_law_pile"]) (Z : Bi mg) : Cal P w K mg base "_law_coins" 1 spCoins := by
  refine D.cal fun f fd F => def_ok F sc_law_coins (fun _ => rfl) fun cdv A outer s H E hr => ?_
  refine ⟨_, (pss_cons (ps_set (i := 1) sc_law_coins.nd rfl (Or.inl rfl) (pe_lst pa_nil))
    (pss_cons (ps_for PassesOwn.never rfl (pi_tup (pv 0)) (pg_tup rfl (pgs_cons (pg_name (i := 2) sc_law_coins.nd rfl (Or.inl rfl)) (pgs_cons (pg_name (i := 3) sc_law_coins.nd rfl (Or.inl rfl)) pgs_nil)))
      (pss_one (ps_set (i := 1) sc_law_coins.nd rfl (Or.inl rfl) (pe_op op_cat (pv 1) (pe_op op_rep (pe_lst (pa_cons (pv 2) pa_nil)) (pv 3))))))
    (pss_one (ps_ret (pv 1))))), fun p hp => ?_⟩
  obtain ⟨hb, ht⟩ := hp
  have hcl := coins_len fun x hx => (hb.at_ x hx).2.2.1
  show Eo [some (encP p), none, none, none] _ _
  refine eo_seq (eo_set (ed_lst ea_nil (Nat.zero_le _))) (eo_seq (eo_for (ds := p.map encL) (fun i => [some (encP p), some (.list ((coinsP (p.take i)).map .int)), none, none]) (ei_tup (ed_var rfl)) (le_of ⟨rfl, rfl, trivial⟩) ?_) (eo_ret (Ed.is (ed_var rfl) ?_)))
  · intro i d hd2
    rw [List.getElem?_map] at hd2
    cases er : p[i]? with
    | none => rw [er] at hd2; cases hd2
    | some x =>
      rw [er] at hd2
      cases hd2
      have hx := hb.at_ _ (List.mem_of_getElem? er)
      have et : p.take (i + 1) = p.take i ++ [x] := by rw [List.take_add_one, er]; rfl
      have ea : coinsP (p.take (i + 1)) = coinsP (p.take i) ++ List.replicate x.2.toNat x.1 := by
        unfold coinsP
        rw [et, List.flatMap_append, List.flatMap_singleton]
      have el : (coinsP p).length = (coinsP (p.take (i + 1))).length + (coinsP (p.drop (i + 1))).length := by
        conv => lhs; rw [← List.take_append_drop (i + 1) p]
        unfold coinsP
        rw [List.flatMap_append, List.length_append]
      rw [ea, List.length_append, List.length_replicate] at el
      refine ⟨_, _, eg_tup (egs_cons eg_name (egs_cons eg_name egs_nil)) rfl, Eo.less (eo_set (ed_cat (ed_var rfl) (ed_rep (ed_lst (ea_cons (ed_var rfl) ea_nil) (Nat.le_of_ble_eq_true rfl)) (ed_var rfl) (by omega) (by omega) ?_) ?_)) (le_of ⟨rfl, ?_, trivial⟩)⟩
      · show 1 * _ ≤ _
        omega
      · rw [rep_ints, List.length_map, List.length_map, List.length_replicate]
        omega
      · rw [ea, rep_ints, List.map_append]
  · rw [List.length_map, List.take_length]
abbrev spHeap : Sp := spD (fun l : List Int => [.list (l.map .int)]) (fun l => l.length ≤ 1000) fun l => encP (heapP (PySem.W.sortI l))
theorem lay_list (p : List (Int × Int)) : SeqAt.shaped (.list (p.map encL)) = true := by
  obtain ⟨h1, h2⟩ := lay_encL p
  unfold SeqAt.shaped
  rw [Bool.and_eq_true]
  refine ⟨?_, decide_eq_true ?_⟩
  · simp only [PyData.canLay0]
    exact h1
  · simp only [PyData.depth]
    omega
theorem noD_list (p : List (Int × Int)) : noD (.list (p.map encL)) = true := by
  simp only [noD]
  exact noD_encL p
theorem Et.wl {ρ : En} {k : Nat} {ds : List PD} {tt : TT} {b : Bool} (h : Et (ρ.set k (some (.list ds))) tt b) : EtW CL k ρ ds tt b := fun σ H l Q s hk ow q => h σ H Q (own_sg s hk ow) q
theorem eiw_sorted {ρ : En} {k j : Nat} {cs : List PD} {l : List Int} (h : ρ[j]? = some (some (.list (l.map .int)))) : EiW CL k ρ cs (iList K (tCB (rSortedI K) (tCons (tVar j) tNil))) ((PySem.W.sortI l).map .int) := fun σ H b R s hk ow q => by
  obtain ⟨v, h1, h2⟩ := s.at_ j _ h
  obtain ⟨a, xs, rfl, g1, g2⟩ := h2.of_lst
  rw [g2.ints] at g1
  refine ⟨_, h1, a, l, rfl, SqL.of (er_le H b _ _ g1), fun ns p hp hs hn => ?_⟩
  have e : ns = PySem.W.sortI l := PySem.W.eq_sortI hp hs
  subst e
  have hpb : p ≠ b := fun e => by
    obtain ⟨o, ho, _⟩ := ow.ex
    rw [← e, hn] at ho
    cases ho
  have e1 : Same H (upd H p (.lst (((PySem.W.sortI l)).map V.int))) := Same.new hn
  have e2 : er (upd H p (.lst ((PySem.W.sortI l).map V.int))) b p = some (.lst ((PySem.W.sortI l).map V.int)) := by
    unfold er
    rw [if_neg hpb]
    exact upd_same
  exact ⟨p, rfl, ⟨_, SqL.of upd_same⟩, q _ _ e1 (wk_list e2 (DvAll.of_ints _))⟩
theorem atI_end {ds : List PD} {d : PD} : atI (ds ++ [d]) (-1) = some d := by
  unfold L2.atI
  rw [List.length_append, List.length_singleton]
  have e : ixN (ds.length + 1) (-1) = some ds.length := by
    unfold L2.ixN
    rw [if_neg (by omega), if_pos (by omega)]
    congr 1
    omega
  rw [e]
  show (ds ++ [d])[ds.length]? = _
  simp
abbrev s_law_heap : Stmt := topS 28
abbrev n_law_heap : List Str := ["_law_coins_here", "_law_found", "_law_coin"]
theorem sc_law_heap : FnScope n_law_heap ["_law_coins_here"] (defScope s_law_heap) := ⟨rfl, rfl, rfl, by decide +kernel, rfl, by decide +kernel, by decide +kernel⟩
theorem ok_law_heap (D : Dfn K mg "_law_heap" s_law_heap ["_law_coins_here"]) (Z : Bi mg) : Cal P w K mg base "_law_heap" 1 spHeap := by
  refine D.cal fun f fd F => def_ok F sc_law_heap (fun _ => rfl) fun cdv A outer s H E hr => ?_
  refine ⟨_, (pss_cons (ps_set (i := 1) sc_law_heap.nd rfl (Or.inl rfl) (pe_lst pa_nil))
    (pss_cons (ps_for PassesOwn.never rfl (pi_list (pe_callB cr_sortedI rfl Z.sorted bt_sorted (pa_cons (pv 0) pa_nil))) (pg_name (i := 2) sc_law_heap.nd rfl (Or.inl rfl))
      (pss_one (ps_if (PW.pt (pw_and (pt_cmpR (op_neD hr.units) (pv 1) (pe_lst pa_nil) (nomark _)) (pw_and1 (pt_cmpR op_eq (pe_ix ix_tup (pe_ix ix_list (pv 1) (pe_un un_neg pe_int) (fun _ _ => rfl)) pe_int (fun _ _ => rfl)) (pv 2) (nomark _))))) (pss_one (ps_asg (pe_tupF (pa_cons (pv 2) (pa_cons (pe_op op_add (pe_ix ix_tup (pe_ix ix_list (pv 1) (pe_un un_neg pe_int) (fun _ _ => rfl)) pe_int (fun _ _ => rfl)) pe_int) pa_nil))) (pg_sub (pv 1) (pe_un un_neg pe_int) set_list))) (pss_one (ps_expr (pe_bm PySem.F.plainAttrs_list PySem.F.slot_list_append PySem.F.type_list_append mt_append (pv 1) (pa_cons (pe_tupF (pa_cons (pv 2) (pa_cons pe_int pa_nil))) pa_nil)))))))
    (pss_one (ps_ret (pe_callTy call_tupleF rfl Z.tuple bt_tuple (pa_cons (pv 1) pa_nil)))))), fun l hp => ?_⟩
  have hsl : (PySem.W.sortI l).length = l.length := (PySem.W.sortI_perm l).length_eq
  have hso := PySem.W.sortI_rises l
  show Eo [some (.list (l.map .int)), none, none] _ (.rt (encP (heapP (PySem.W.sortI l))))
  refine eo_own (ds := (heapP ((PySem.W.sortI l).take 0)).map encL) (edf_lst ea_nil (Nat.zero_le _)) rfl (Nat.le_of_ble_eq_true rfl) (eow_for (ds := (PySem.W.sortI l).map .int) crL (fun _ => [some (.list (l.map .int)), none, none]) (fun i => (heapP ((PySem.W.sortI l).take i)).map encL) (eiw_sorted rfl) ?_ ?_) ?_
  · exact le_of ⟨rfl, trivial⟩
  · intro i d hd2
    rw [List.getElem?_map] at hd2
    cases er : (PySem.W.sortI l)[i]? with
    | none => rw [er] at hd2; cases hd2
    | some c =>
      rw [er] at hd2
      cases hd2
      have et : (PySem.W.sortI l).take (i + 1) = (PySem.W.sortI l).take i ++ [c] := by rw [List.take_add_one, er]; rfl
      have hi := heap_hi _ ((PySem.W.sortI l).take i) rfl (List.Pairwise.sublist (List.take_sublist i _) hso)
      have hlen : (heapP ((PySem.W.sortI l).take i)).length ≤ 1000 := by
        have q := tot_len fun x hx => (hi.at_ x hx).2
        rw [hi.tot, List.length_take] at q
        omega
      rw [et, heapP_snoc]
      generalize heapP ((PySem.W.sortI l).take i) = p at hi hlen
      refine ⟨_, _, eg_name, by decide, noJ0.set (js' := [2]) rfl (by simp), ?_⟩
      show Eow CL 1 [some (.list (l.map .int)), none, some (.int c)] _ _ _ _
      rcases snoc_cases p with rfl | ⟨q, x, rfl⟩
      · refine Eow.less (eow_if (b := false) crL (Et.wl (Et.is (et_and (a := false) (b := true) (et_test (Ed.is (ed_neD (ed_var rfl) (ed_lst ea_nil (Nat.zero_le _)) (lay_list []) (lay_list []) rfl rfl) rfl)) fun z => nomatch z) rfl)) (fun z => nomatch z) fun _ => Eow.is (eow_append (d := encL (c, 1)) (Ed.w (ed_tup (ea_cons (ed_var rfl) (ea_cons ed_int ea_nil)) (Nat.le_of_ble_eq_true rfl))) rfl (by decide)) rfl) (le_of ⟨rfl, trivial⟩)
      · have tst := et_and (ρ := [some (.list (l.map .int)), some (.list ((q ++ [x]).map encL)), some (.int c)]) (a := true) (et_test (Ed.is (ed_neD (K := K) (ed_var (i := 1) rfl) (ed_lst ea_nil (Nat.zero_le _)) (lay_list (q ++ [x])) (lay_list []) (noD_list (q ++ [x])) rfl) (show PyData.bool _ = .bool true by rw [List.map_append]; cases q <;> rfl))) fun _ => et_test (ed_eqI (i := x.1) (j := c) (ed_ixT (K := K) (ds := [.int x.1, .int x.2]) (i := 0) (d := .int x.1) (ed_ixL (K := K) (ed_var (i := 1) rfl) (ed_neg (i := 1) ed_int) (by rw [List.map_append]; exact atI_end)) ed_int rfl) (ed_var (i := 2) rfl))
        rw [addC_snoc]
        by_cases e : x.1 = c
        · rw [if_pos e]
          refine Eow.less (eow_if (b := true) crL (Et.wl (Et.is tst (by rw [decide_eq_true e]; rfl))) (fun _ => Eow.is (eow_put (d := encL (c, x.2 + 1)) (j := q.length) (Ed.wl (ed_tup (ea_cons (ed_var rfl) (ea_cons (ed_add (i := x.2) (j := 1) (ed_ixT (K := K) (ds := [.int x.1, .int x.2]) (i := 1) (d := .int x.2) (ed_ixL (K := K) (ed_var (i := 1) rfl) (ed_neg ed_int) (by rw [List.map_append]; exact atI_end)) ed_int rfl) ed_int) ea_nil)) (Nat.le_of_ble_eq_true rfl))) (ed_neg ed_int) rfl ?_) ?_) fun z => nomatch z) (le_of ⟨rfl, trivial⟩)
          · rw [List.length_map, List.length_append, List.length_singleton]
            unfold L2.ixN
            rw [if_neg (by omega), if_pos (by omega)]
            congr 1
            omega
          · rw [List.map_append, List.map_append, List.set_append_right _ _ (by rw [List.length_map]; exact Nat.le_refl _), List.length_map, Nat.sub_self]
            rfl
        · rw [if_neg e]
          refine Eow.less (eow_if (b := false) crL (Et.wl (Et.is tst (by rw [decide_eq_false e]; rfl))) (fun z => nomatch z) fun _ => Eow.is (eow_append (d := encL (c, 1)) (Ed.w (ed_tup (ea_cons (ed_var rfl) (ea_cons ed_int ea_nil)) (Nat.le_of_ble_eq_true rfl))) rfl (by rw [List.length_map]; omega)) ?_) (le_of ⟨rfl, trivial⟩)
          rw [List.map_append (l₁ := q ++ [x])]
          rfl
  · refine eo_ret (Ed.is (ed_tupOf (ed_var rfl)) ?_)
    rw [List.length_map, List.take_length]
    rfl
end
end K27
end
section
set_option Elab.async false
set_option linter.all false
set_option maxRecDepth 100000
set_option maxHeartbeats 1000000
namespace K27
open PySem PySem.Spec PyProof.Rows L2

local macro_rules | `(tactic| walk_at "ed") => `(tactic| first
  | exact ed_var rfl | exact ed_int | exact ed_str | exact ed_non | exact ed_bl
  | (apply ed_ixT <;> first | rfl | walk_at "ed")
  | (apply ed_add <;> walk_at "ed")
  | (apply ed_sub <;> walk_at "ed")
  | (apply ed_min2 <;> walk_at "ed")
  | (apply ed_max2 <;> walk_at "ed")
  | (apply ed_eqS <;> walk_at "ed")
  | (apply ed_neS <;> walk_at "ed")
  | (apply ed_isN <;> walk_at "ed")
  | (apply ed_notN <;> walk_at "ed")
  | (apply ed_lt <;> walk_at "ed")
  | (apply ed_le <;> walk_at "ed")
  | (apply ed_gt <;> walk_at "ed")
  | (apply ed_ge <;> walk_at "ed")
  | (apply ed_mul <;> first | walk_at "ed" | skip)
  | (apply ed_in2 <;> walk_at "ed")
  | (apply ed_tup <;> first | (show EdA _ _ _; walk_at "ea") | (simp only [List.length_cons, List.length_nil]; decide) | skip)
  | (apply ed_lst <;> first | (show EdA _ _ _; walk_at "ea") | (simp only [List.length_cons, List.length_nil]; decide) | skip)
  | skip)
local macro_rules | `(tactic| walk_at "ea") => `(tactic| first
  | exact ea_nil
  | (apply ea_cons <;> first | (show EdA _ _ _; walk_at "ea") | walk_at "ed"))
local macro_rules | `(tactic| walk_at "set") => `(tactic| (refine' eo_seq (eo_set ?kz1) ?kz2; (case kz1 => walk_at "ed")))
local macro_rules | `(tactic| walk_at "et") => `(tactic| first
  | (refine' et_test ?kz1; (case kz1 => walk_at "ed"))
  | (refine' et_B ?kz1; (case kz1 => walk_at "ed"))
  | skip)
local macro_rules | `(tactic| walk_at "F") => `(tactic| (refine' eo_seq (eo_ifF (Et.is (et_test ?kz1) ?kz2) eo_next) ?kz3; (case kz1 => walk_at "ed"); (case kz2 => decide)))
local macro_rules | `(tactic| walk_at "T") => `(tactic| (refine' eo_ret1 (eo_ifT (Et.is (et_test ?kz1) ?kz2) (eo_ret ?kz3)); (case kz1 => walk_at "ed"); (case kz2 => decide)))
local macro_rules | `(tactic| walk_at "TB") => `(tactic| (refine' eo_ret1 (eo_ifT (Et.is (et_test ?kz1) ?kz2) ?kz3); (case kz1 => walk_at "ed"); (case kz2 => decide)))

theorem erase_map {α β : Type} (f : α → β) : ∀ (l : List α) (j : Nat), (l.map f).eraseIdx j = (l.eraseIdx j).map f
  | [], _ => rfl
  | _ :: _, 0 => rfl
  | x :: l, j + 1 => by
    rw [List.map_cons, List.eraseIdx_cons_succ, List.eraseIdx_cons_succ, erase_map f l j, List.map_cons]
/-- nothing is written -/
def Mu0 : Mu Unit where
  ad := []
  ix := []
  inv _ _ := True
  ag _ _ _ _ _ := trivial
  lv _ _ _ a ha := nomatch ha
  nf _ _ _ a ha := nomatch ha
theorem er0 (H : Hp) : erL Mu0.ad H = H := by
  funext b
  exact if_neg (fun h => nomatch h)
/-- digits -/
def MuD (d : Addr) : Mu Unit where
  ad := [d]
  ix := [(0, d)]
  inv _ H := Dg d H
  ag _ H H' h iv := by
    obtain ⟨n, n0, hn⟩ := iv
    exact ⟨n, n0, by rw [h d (by simp)]; exact hn⟩
  lv _ H iv a ha := by
    obtain ⟨n, n0, hn⟩ := iv
    rw [List.mem_singleton.mp ha]
    exact ⟨_, hn⟩
  nf _ H iv a ha p xs := by
    obtain ⟨n, n0, hn⟩ := iv
    rw [List.mem_singleton.mp ha, hn]
    exact fun z => nomatch z
theorem MuD.dg {d : Addr} : ∀ x H, (MuD d).inv x H → Dg d H ∧ ∀ m : Int, 0 ≤ m → (MuD d).inv x (upd H d (.lst [.int m])) := fun _ H iv => ⟨iv, fun m hm => ⟨m, hm, upd_same⟩⟩
/-- digits and coins -/
def CsOk (cs : List Int) : Prop := (∀ n ∈ cs, 1 ≤ n ∧ n ≤ 100) ∧ cs.length ≤ 900
def MuC (d c : Addr) (hdc : d ≠ c) : Mu (List Int) where
  ad := [d, c]
  ix := [(0, d), (2, c)]
  inv cs H := Dg d H ∧ H c = some (.lst (cs.map .int)) ∧ CsOk cs
  ag x H H' h iv := by
    obtain ⟨⟨n, n0, hn⟩, hs, hl⟩ := iv
    exact ⟨⟨n, n0, by rw [h d (by simp)]; exact hn⟩, by rw [h c (by simp)]; exact hs, hl⟩
  lv x H iv a ha := by
    obtain ⟨⟨n, n0, hn⟩, hs, hl⟩ := iv
    rcases List.mem_cons.mp ha with rfl | ha
    · exact ⟨_, hn⟩
    · rw [List.mem_singleton.mp ha]
      exact ⟨_, hs⟩
  nf x H iv a ha p xs := by
    obtain ⟨⟨n, n0, hn⟩, hs, hl⟩ := iv
    rcases List.mem_cons.mp ha with rfl | ha
    · rw [hn]
      exact fun z => nomatch z
    · rw [List.mem_singleton.mp ha, hs]
      exact fun z => nomatch z
section
variable {d c : Addr} {hdc : d ≠ c} {cs : List Int} {ρ ρ' : En} {te ti : TE} {tt : TT} {K : PySem.W.Frag} {t u : TS}
theorem MuC.dg : ∀ x H, (MuC d c hdc).inv x H → Dg d H ∧ ∀ m : Int, 0 ≤ m → (MuC d c hdc).inv x (upd H d (.lst [.int m])) := fun x H iv =>
  ⟨iv.1, fun m hm => ⟨⟨m, hm, upd_same⟩, by rw [upd_ne (Ne.symm hdc)]; exact iv.2.1, iv.2.2⟩⟩
theorem MuC.sg {H : Hp} {σ : L2.St} (f : Fr (MuC d c hdc) cs H σ ρ) : Sg H σ (ρ.set 2 (some (.list (cs.map .int)))) := by
  have hk : σ[2]? = some (some (.ref c)) := f.vr (2, c) (by simp [MuC])
  refine ⟨by rw [List.length_set]; exact f.sg.len, fun j e hj => ?_⟩
  by_cases h2 : 2 = j
  · subst h2
    have hl : 2 < ρ.length := by
      rw [← f.sg.len]
      exact (List.getElem?_eq_some_iff.mp hk).1
    rw [List.getElem?_set_self hl] at hj
    cases hj
    exact ⟨_, hk, .lst f.iv.2.1 (DvAll.of_ints cs)⟩
  · rw [List.getElem?_set_ne h2] at hj
    obtain ⟨v, g1, g2⟩ := f.sg.at_ j e hj
    exact ⟨v, g1, g2.mono (erL_le _ _)⟩
theorem emc_read {e : PD} (h : Ed (ρ.set 2 (some (.list (cs.map .int)))) te e) (hn : noL e = true) : Em (MuC d c hdc) cs ρ te (fun y e' => y = cs ∧ e' = e) := fun σ H Q f q => h σ H Q (MuC.sg f) fun v H' e1 hd => by
  have iv := (MuC d c hdc).st cs _ _ e1 f.iv
  exact q v H' cs e (erL_same e1) iv (hd.imm (Mu.imm iv) hn) ⟨rfl, rfl⟩
theorem emtc_read {b : Bool} (h : Et (ρ.set 2 (some (.list (cs.map .int)))) tt b) : EmT (MuC d c hdc) cs ρ tt (fun y b' => y = cs ∧ b' = b) := fun σ H Q f q => h σ H Q (MuC.sg f) fun H' e1 => q b H' cs (erL_same e1) ((MuC d c hdc).st cs _ _ e1 f.iv) ⟨rfl, rfl⟩
theorem emc_take {size : Int} {tn : TE} (hn : Ed (ρ.set 2 (some (.list (cs.map .int)))) tn (.int size)) (h1 : 1 ≤ size) (h2 : size ≤ 1000000) :
    Em (MuC d c hdc) cs ρ (tCall spTk [] E0 (tCons (tVar 0) (tCons tn tNil))) (fun y e => y = cs ∧ PI (fun i => 0 ≤ i ∧ i < size) e) := fun σ H Q f q =>
  ⟨.ref d, f.vr (0, d) (by simp [MuC]), hn σ H _ (MuC.sg f) fun v H1 e1 g => by
    cases g
    have iv := (MuC d c hdc).st cs _ _ e1 f.iv
    obtain ⟨⟨n, n0, hn⟩, up⟩ := MuC.dg cs H1 iv
    refine ⟨d, size, n, rfl, h1, h2, n0, hn, fun i m hi hs hm => q _ _ cs (.int i) ?_ (up m hm) (.int i) ⟨rfl, i, rfl, hi, hs⟩⟩
    show Same (erL _ H) (erL _ (upd H1 d (.lst [.int m])))
    rw [erL_upd (by simp [MuC])]
    exact erL_same e1⟩
theorem emc_upd {H : Hp} {cs' : List Int} (iv : (MuC d c hdc).inv cs H) (h : CsOk cs') : (MuC d c hdc).inv cs' (upd H c (.lst (cs'.map .int))) := by
  obtain ⟨⟨n, n0, hn⟩, hs, hl⟩ := iv
  exact ⟨⟨n, n0, by rw [upd_ne hdc]; exact hn⟩, upd_same, h⟩
theorem eobc_append {i : Int} {N : List Int → En → Prop} {T : List Int → PD → Prop} (h : Ed ρ te (.int i)) (hi : 1 ≤ i ∧ i ≤ 100) (hl : cs.length < 900) (hN : N (cs ++ [i]) ρ) : Eob (MuC d c hdc) cs ρ (tDrop (tBM K "list" rAppend (tVar 2) (tCons te tNil))) N T := fun D σ H f q r => by
  refine ⟨.ref c, f.vr (2, c) (by simp [MuC]), .inl ⟨rfl, _, SqL.of f.iv.2.1⟩, h σ H _ (f.sg.mono (erL_le _ _)) fun v H1 e1 g => ?_⟩
  cases g
  have iv := (MuC d c hdc).st cs _ _ e1 f.iv
  have ok : CsOk (cs ++ [i]) := ⟨fun n hn => by
    rcases List.mem_append.mp hn with hn | hn
    · exact iv.2.2.1 n hn
    · rw [List.mem_singleton.mp hn]
      exact hi, by rw [List.length_append]; exact hl⟩
  refine ⟨c, cs.map .int, .int i, rfl, rfl, iv.2.1, by rw [List.length_map]; exact Nat.lt_of_lt_of_le hl (by decide), ?_⟩
  have e2 : (cs.map V.int ++ [V.int i]) = (cs ++ [i]).map V.int := by rw [List.map_append]; rfl
  rw [e2]
  have g2 : Gone (MuC d c hdc) H (upd H1 c (.lst ((cs ++ [i]).map V.int))) := by
    show Same (erL _ H) (erL _ (upd H1 c _))
    rw [erL_upd (by simp [MuC])]
    exact erL_same e1
  exact q σ _ (cs ++ [i]) ρ g2 (f.step g2 (emc_upd iv ok)) hN
theorem eobc_pop {N : List Int → En → Prop} {T : List Int → PD → Prop} (h : Em (MuC d c hdc) cs ρ te (fun y e => y = cs ∧ PI (fun i => 0 ≤ i ∧ i < (cs.length : Int)) e)) (hN : ∀ j, N (cs.eraseIdx j) ρ) : Eob (MuC d c hdc) cs ρ (tDrop (tBM K "list" rPopAt (tVar 2) (tCons te tNil))) N T := fun D σ H f q r => by
  refine ⟨.ref c, f.vr (2, c) (by simp [MuC]), .inl ⟨rfl, _, SqL.of f.iv.2.1⟩, h σ H _ f fun v H1 y e g1 iv hd ht => ?_⟩
  obtain ⟨rfl, i, rfl, i1, i2⟩ := ht
  cases hd
  have hl := iv.2.2.2
  have hj : i.toNat < y.length := by omega
  refine ⟨c, y.map .int, i, i.toNat, .int y[i.toNat], rfl, rfl, iv.2.1, by omega, by omega, ?_, ?_, ?_⟩
  · refine (L2.ixN_seq ?_).1
    rw [List.length_map]
    unfold L2.ixN
    rw [if_pos i1, if_pos i2]
  · rw [List.getElem?_map, List.getElem?_eq_getElem hj]
    rfl
  · have e2 : (y.map V.int).eraseIdx i.toNat = (y.eraseIdx i.toNat).map V.int := erase_map ..
    rw [e2]
    have ok : CsOk (y.eraseIdx i.toNat) := ⟨fun n hn => iv.2.2.1 n (List.mem_of_mem_eraseIdx hn), Nat.le_trans (List.length_eraseIdx_le ..) hl⟩
    have g2 : Gone (MuC d c hdc) H (upd H1 c (.lst ((y.eraseIdx i.toNat).map V.int))) := by
      show Same (erL _ H) (erL _ (upd H1 c _))
      rw [erL_upd (by simp [MuC])]
      exact g1
    exact q σ _ _ ρ g2 (f.step g2 (emc_upd iv ok)) (hN _)
theorem eobc_put {N : List Int → En → Prop} {T : List Int → PD → Prop} {v : Int} {j : Nat} (h : Ed (ρ.set 2 (some (.list (cs.map .int)))) te (.int v)) (hi : Ed ρ ti (.int (j : Int))) (hj : j < cs.length) (hv : 1 ≤ v ∧ v ≤ 100) (hN : N (cs.set j v) ρ) : Eob (MuC d c hdc) cs ρ (tAsg te (gSub (tVar 2) ti rSetL)) N T := fun D σ H f q r =>
  h σ H _ (MuC.sg f) fun w H1 e1 g => by
    cases g
    have iv := (MuC d c hdc).st cs _ _ e1 f.iv
    refine ⟨.ref c, f.vr (2, c) (by simp [MuC]), hi σ H1 _ ((f.sg.mono (erL_le _ _)).mono e1) fun w2 H2 e2 g => ?_⟩
    cases g
    have iv2 := (MuC d c hdc).st cs _ _ e2 iv
    refine ⟨c, cs.map .int, (j : Int), j, rfl, rfl, iv2.2.1, by rw [List.length_map]; exact ixN_nat hj, ?_⟩
    rw [← List.map_set]
    have ok : CsOk (cs.set j v) := ⟨fun n hn => by
      rcases List.mem_or_eq_of_mem_set hn with hn | rfl
      · exact iv.2.2.1 n hn
      · exact hv, by rw [List.length_set]; exact iv.2.2.2⟩
    have g2 : Gone (MuC d c hdc) H (upd H2 c (.lst ((cs.set j v).map V.int))) := by
      show Same (erL _ H) (erL _ (upd H2 c _))
      rw [erL_upd (by simp [MuC])]
      exact erL_same (e1.trans e2)
    exact q σ _ _ ρ g2 (f.step g2 (emc_upd iv2 ok)) hN
/-- the coins are made -/
theorem eobc_new {N : Unit → En → Prop} {T : PD → Prop} (h2 : ρ[2]? = some none) (h : ∀ c (hdc : d ≠ c), Eob (MuC d c hdc) [] ρ u (fun _ _ => False) (fun _ e => T e)) : Eob (MuD d) () ρ (tSeq (tAsg (tLst tNil) (gName 2)) u) N (fun _ e => T e) := fun D σ H f q r => by
  refine ⟨by show 0 ≤ sizeLine; exact Nat.zero_le _, fun p hp => ?_⟩
  obtain ⟨n, n0, hn⟩ := f.iv
  have hdp : d ≠ p := fun e => by
    rw [← e, hn] at hp
    cases hp
  have e1 : Same H (upd H p (.lst [])) := Same.new hp
  have hl : 2 < σ.length := by
    rw [f.sg.len]
    exact (List.getElem?_eq_some_iff.mp h2).1
  have ge : ∀ b o, erL [d] H b = some o → erL [d, p] (upd H p (.lst [])) b = some o := fun b o hb => by
    unfold erL at hb ⊢
    split at hb
    · cases hb
    · rename_i hbd
      have hbp : b ≠ p := fun e => by
        rw [e, hp] at hb
        cases hb
      rw [if_neg (by simp only [List.mem_cons, List.not_mem_nil, or_false] at hbd ⊢; exact fun z => z.elim hbd hbp), upd_ne hbp]
      exact hb
  have back : ∀ H', Same (erL [d, p] H') (erL [d] H') := fun H' b o hb => by
    unfold erL at hb ⊢
    split at hb
    · cases hb
    · rename_i hbd
      rw [if_neg (fun z => hbd (List.mem_cons.mpr (.inl (List.mem_singleton.mp z))))]
      exact hb
  refine h p hdp D (σ.set 2 (some (.ref p))) (upd H p (.lst [])) ⟨?_, fun x hx => ?_, ⟨⟨n, n0, e1 _ _ hn⟩, upd_same, fun n h => (nomatch h), Nat.zero_le _⟩⟩ (fun _ _ _ _ _ _ z => z.elim) fun v H' y e g iv hd ht => r v H' () e ?_ iv.1 (hd.mono (back H')) ht
  · refine ⟨by rw [List.length_set]; exact f.sg.len, fun j e hj => ?_⟩
    by_cases hj2 : 2 = j
    · subst hj2
      rw [h2] at hj
      cases hj
    · obtain ⟨v, g1, g2⟩ := f.sg.at_ j e hj
      exact ⟨v, by rw [List.getElem?_set_ne hj2]; exact g1, g2.mono ge⟩
  · have : x = (0, d) ∨ x = (2, p) := by simpa [MuC] using hx
    rcases this with rfl | rfl
    · rw [List.getElem?_set_ne (show 2 ≠ 0 by decide)]
      exact f.vr (0, d) (by simp [MuD])
    · exact List.getElem?_set_self hl
  · exact fun b o hb => back H' b o (g b o (ge b o hb))
/-- .. and are left to the rest -/
theorem eobc_free {N : List Int → En → Prop} {T : PD → Prop} (h : Eob (MuD d) () (ρ.set 2 (some (.list (cs.map .int)))) u (fun _ _ => False) (fun _ e => T e ∧ noL e = true)) : Eob (MuC d c hdc) cs ρ u N (fun _ e => T e) := fun D σ H f q r => by
  have back : ∀ H', Same (erL [d, c] H') (erL [d] H') := fun H' b o hb => by
    unfold erL at hb ⊢
    split at hb
    · cases hb
    · rename_i hbd
      rw [if_neg (fun z => hbd (List.mem_cons.mpr (.inl (List.mem_singleton.mp z))))]
      exact hb
  have hk : σ[2]? = some (some (.ref c)) := f.vr (2, c) (by simp [MuC])
  have hc : erL [d] H c = some (.lst (cs.map .int)) := by
    unfold erL
    rw [if_neg (fun z => hdc (List.mem_singleton.mp z).symm)]
    exact f.iv.2.1
  refine h D σ H ⟨⟨by rw [List.length_set]; exact f.sg.len, fun j e hj => ?_⟩, fun p hp => f.vr p (by rw [show p = (0, d) from List.mem_singleton.mp hp]; simp [MuC]), f.iv.1⟩ (fun _ _ _ _ _ _ z => z.elim) fun v H' y e g iv hd ht => ?_
  · by_cases h2 : 2 = j
    · subst h2
      have hl : 2 < ρ.length := by
        rw [← f.sg.len]
        exact (List.getElem?_eq_some_iff.mp hk).1
      rw [List.getElem?_set_self hl] at hj
      cases hj
      exact ⟨_, hk, .lst hc (DvAll.of_ints cs)⟩
    · rw [List.getElem?_set_ne h2] at hj
      obtain ⟨v, g1, g2⟩ := f.sg.at_ j e hj
      exact ⟨v, g1, g2.mono (back H)⟩
  · have hc' : H' c = some (.lst (cs.map .int)) := erL_le _ _ _ _ (g _ _ hc)
    have iv' : (MuC d c hdc).inv cs H' := ⟨iv, hc', f.iv.2.2⟩
    refine r v H' cs e (fun b o hb => ?_) iv' ((hd.mono (erL_le _ _)).imm (Mu.imm iv') ht.2) ht.1
    have hb1 := g b o (back H b o hb)
    have hn : b ∉ [d, c] := fun z => by
      have hb' : erL [d, c] H b = some o := hb
      unfold erL at hb'
      rw [if_pos z] at hb'
      cases hb'
    show erL [d, c] H' b = some o
    unfold erL
    rw [if_neg hn]
    exact erL_le _ _ _ _ hb1
end
section
variable {X : Type} {M : Mu X} {x : X} {ρ : En} {tb : TE}
/-- a list that stands, and one that is made with writing -/
theorem em_catL {i : Nat} {ds : List PD} {TL : List PD → Prop} (h1 : ρ[i]? = some (some (.list ds))) (h2 : Em M x ρ tb (fun _ e => ∃ es, e = .list es ∧ TL es)) (hz : ∀ es, TL es → ds.length + es.length ≤ 1000000) : Em M x ρ (tOp rCat (tVar i) tb) (fun _ e => ∃ es, e = .list (ds ++ es) ∧ TL es) := fun σ H Q f q => by
  obtain ⟨v, g1, g2⟩ := f.sg.at_ i _ h1
  refine ⟨v, g1, h2 σ H _ f fun w H1 y e g iv hd ht => ?_⟩
  obtain ⟨es, rfl, ht⟩ := ht
  obtain ⟨a, xs, rfl, k1, k2⟩ := (g2.mono g).of_lst
  obtain ⟨b, ys, rfl, k3, k4⟩ := hd.of_lst
  refine ⟨a, b, xs, ys, rfl, rfl, erL_le _ _ _ _ k1, erL_le _ _ _ _ k3, by rw [k2.length, k4.length]; exact sizes (hz es ht), fun p hp => ?_⟩
  have hpa := M.new iv hp
  have e1 : Same H1 (upd H1 p (.lst (xs ++ ys))) := Same.new hp
  have e2 : erL M.ad (upd H1 p (.lst (xs ++ ys))) p = some (.lst (xs ++ ys)) := by
    unfold erL
    rw [if_neg hpa]
    exact upd_same
  exact q _ _ y _ (g.trans (erL_same e1)) (M.st y _ _ e1 iv) (.lst e2 ((k2.append k4).mono (erL_same e1))) ⟨es, rfl, ht⟩
end
end K27
end
section
set_option Elab.async false
set_option linter.all false
set_option maxRecDepth 100000
set_option maxHeartbeats 1000000
namespace K27
open PySem PySem.Spec PyProof.Rows L2

local macro_rules | `(tactic| walk_at "ed") => `(tactic| first
  | exact ed_var rfl | exact ed_int | exact ed_str | exact ed_non | exact ed_bl
  | (apply ed_ixT <;> first | rfl | walk_at "ed")
  | (apply ed_add <;> walk_at "ed")
  | (apply ed_sub <;> walk_at "ed")
  | (apply ed_min2 <;> walk_at "ed")
  | (apply ed_max2 <;> walk_at "ed")
  | (apply ed_eqS <;> walk_at "ed")
  | (apply ed_neS <;> walk_at "ed")
  | (apply ed_isN <;> walk_at "ed")
  | (apply ed_notN <;> walk_at "ed")
  | (apply ed_lt <;> walk_at "ed")
  | (apply ed_le <;> walk_at "ed")
  | (apply ed_gt <;> walk_at "ed")
  | (apply ed_ge <;> walk_at "ed")
  | (apply ed_mul <;> first | walk_at "ed" | skip)
  | (apply ed_in2 <;> walk_at "ed")
  | (apply ed_tup <;> first | (show EdA _ _ _; walk_at "ea") | (simp only [List.length_cons, List.length_nil]; decide) | skip)
  | (apply ed_lst <;> first | (show EdA _ _ _; walk_at "ea") | (simp only [List.length_cons, List.length_nil]; decide) | skip)
  | skip)
local macro_rules | `(tactic| walk_at "ea") => `(tactic| first
  | exact ea_nil
  | (apply ea_cons <;> first | (show EdA _ _ _; walk_at "ea") | walk_at "ed"))
local macro_rules | `(tactic| walk_at "set") => `(tactic| (refine' eo_seq (eo_set ?kz1) ?kz2; (case kz1 => walk_at "ed")))
local macro_rules | `(tactic| walk_at "et") => `(tactic| first
  | (refine' et_test ?kz1; (case kz1 => walk_at "ed"))
  | (refine' et_B ?kz1; (case kz1 => walk_at "ed"))
  | skip)
local macro_rules | `(tactic| walk_at "F") => `(tactic| (refine' eo_seq (eo_ifF (Et.is (et_test ?kz1) ?kz2) eo_next) ?kz3; (case kz1 => walk_at "ed"); (case kz2 => decide)))
local macro_rules | `(tactic| walk_at "T") => `(tactic| (refine' eo_ret1 (eo_ifT (Et.is (et_test ?kz1) ?kz2) (eo_ret ?kz3)); (case kz1 => walk_at "ed"); (case kz2 => decide)))
local macro_rules | `(tactic| walk_at "TB") => `(tactic| (refine' eo_ret1 (eo_ifT (Et.is (et_test ?kz1) ?kz2) ?kz3); (case kz1 => walk_at "ed"); (case kz2 => decide)))

section
variable {X : Type} {M : Mu X} {x : X} {ρ : En} {ta tb : TE} {S1 S2 S : Int → Prop}
theorem em_sub2 (h1 : Em M x ρ ta (fun y d => y = x ∧ PI S1 d)) (h2 : Em M x ρ tb (fun y d => y = x ∧ PI S2 d)) (hS : ∀ i j, S1 i → S2 j → S (i - j)) : Em M x ρ (tOp (rI0 fun i j => .int (i - j)) ta tb) (fun y c => y = x ∧ PI S c) := by
  refine Em.imp (em_op (T2 := fun _ _ y d => y = x ∧ PI S2 d) (G := fun d e => match d, e with | .int i, .int j => .int (i - j) | _, _ => .none) h1 (fun y d t => by rw [t.1]; exact h2) fun y d z e t1 t2 => ?_) fun z c h => ?_
  · obtain ⟨_, i, rfl, si⟩ := t1
    obtain ⟨_, j, rfl, sj⟩ := t2
    refine ⟨rfl, fun u v H Q hu hv q => ?_⟩
    cases hu
    cases hv
    exact ⟨i, j, rfl, rfl, q _ H (Same.refl H) (.int _)⟩
  · obtain ⟨y, d, e, t1, t2, rfl⟩ := h
    obtain ⟨_, i, rfl, si⟩ := t1
    obtain ⟨hz, j, rfl, sj⟩ := t2
    exact ⟨hz, _, rfl, hS i j si sj⟩
theorem em_mul2 (h1 : Em M x ρ ta (fun y d => y = x ∧ PI S1 d)) (h2 : Em M x ρ tb (fun y d => y = x ∧ PI S2 d)) (hS : ∀ i j, S1 i → S2 j → CMul i j ∧ S (i * j)) : Em M x ρ (tOp (rI CMul fun i j => .int (i * j)) ta tb) (fun y c => y = x ∧ PI S c) := by
  refine Em.imp (em_op (T2 := fun _ _ y d => y = x ∧ PI S2 d) (G := fun d e => match d, e with | .int i, .int j => .int (i * j) | _, _ => .none) h1 (fun y d t => by rw [t.1]; exact h2) fun y d z e t1 t2 => ?_) fun z c h => ?_
  · obtain ⟨_, i, rfl, si⟩ := t1
    obtain ⟨_, j, rfl, sj⟩ := t2
    refine ⟨rfl, fun u v H Q hu hv q => ?_⟩
    cases hu
    cases hv
    exact ⟨i, j, rfl, rfl, (hS i j si sj).1, q _ H (Same.refl H) (.int _)⟩
  · obtain ⟨y, d, e, t1, t2, rfl⟩ := h
    obtain ⟨_, i, rfl, si⟩ := t1
    obtain ⟨hz, j, rfl, sj⟩ := t2
    exact ⟨hz, _, rfl, (hS i j si sj).2⟩
end
theorem lay_ints : ∀ l : List Int, PyData.canLayAll0 (l.map .int) = true ∧ PyData.depthAll (l.map .int) = 0 ∧ noDAll (l.map .int) = true
  | [] => ⟨rfl, rfl, rfl⟩
  | x :: l => by
    obtain ⟨h1, h2, h3⟩ := lay_ints l
    refine ⟨?_, ?_, ?_⟩
    · rw [List.map_cons]
      simp only [PyData.canLayAll0, h1, Bool.and_true]
      rfl
    · rw [List.map_cons]
      simp only [PyData.depthAll, h2]
      rfl
    · rw [List.map_cons]
      simp only [noDAll, h3, Bool.and_true]
      rfl
theorem shaped_ints (l : List Int) : SeqAt.shaped (.list (l.map .int)) = true := by
  obtain ⟨h1, h2, h3⟩ := lay_ints l
  unfold SeqAt.shaped
  rw [Bool.and_eq_true]
  refine ⟨?_, decide_eq_true ?_⟩
  · simp only [PyData.canLay0]
    exact h1
  · simp only [PyData.depth, h2]
    decide
theorem noD_ints (l : List Int) : noD (.list (l.map .int)) = true := by
  simp only [noD]
  exact (lay_ints l).2.2
theorem ed_neL {ρ : En} {K : PySem.W.Frag} {i : Nat} {l : List Int} (h : ρ[i]? = some (some (.list (l.map .int)))) : Ed ρ (tOp (rNeD K) (tVar i) (tLst tNil)) (.bool (!decide (l = []))) :=
  Ed.is (ed_neD (ed_var h) (ed_lst ea_nil (Nat.zero_le _)) (shaped_ints l) (shaped_ints []) (noD_ints l) rfl) (by cases l <;> rfl)
section
variable {P : Program} {w : World} {K : PySem.W.Frag} {mg : Str → Option Value} {base : Heap}
abbrev spCap : Sp := fun vs H Q _ => ∃ (r : Rt Str) (there : Int), DvAll H vs [encR r, .int there, .int 20] ∧ rb r ∧ dep r ≤ 4 ∧ ∀ H' i, Same H H' → 1 ≤ i → i ≤ 20 → Q (.int i) H'
abbrev s_law_cap : Stmt := topS 35
abbrev n_law_cap : List Str := ["_law_right_here", "_law_there", "_law_most_worth", "_law_found"]
theorem sc_law_cap : FnScope n_law_cap ["_law_right_here", "_law_there", "_law_most_worth"] (defScope s_law_cap) := ⟨rfl, rfl, rfl, by decide +kernel, rfl, by decide +kernel, by decide +kernel⟩
theorem ok_law_cap (D : Dfn K mg "_law_cap" s_law_cap ["_law_right_here", "_law_there", "_law_most_worth"]) (Z : Bi mg) (C_law_top : Cal P w K mg base "_law_top" 4 (spTop 4)) : Cal P w K mg base "_law_cap" 5 spCap := by
  refine D.cal fun f fd F => F.ok sc_law_cap (fun vs H Q E h => ?_) (fun cdv A outer s0 H vs Q E hr h => ?_)
  · obtain ⟨r, t, h1, _⟩ := h
    rw [h1.length]
    rfl
  obtain ⟨r, there, h1, hr1, hr2, h3⟩ := h
  refine ⟨_, (pss_cons (ps_set (i := 3) sc_law_cap.nd rfl (Or.inl rfl) pe_int)
    (pss_cons (ps_while PassesOwn.never (PW.pt (pw_and (pt_cmpR op_lt (pv 3) (pv 2) (nomark _)) (pw_and1 (pt_cmpR op_le (pe_cal C_law_top (hr.mono (by omega)) rfl (pa_cons (pv 0) (pa_cons (pe_op op_add (pv 3) pe_int) pa_nil))) (pv 1) (nomark _)))))
      (pss_one (ps_set (i := 3) sc_law_cap.nd rfl (Or.inl rfl) (pe_op op_add (pv 3) pe_int))))
    (pss_one (ps_ret (pv 3))))), ?_⟩
  suffices hh : Eob Mu0 () [some (encR r), some (.int there), some (.int 20), none] _ (fun _ _ => False) (fun _ c => PI (fun i => 1 ≤ i ∧ i ≤ 20) c) by
    refine hh _ _ H ⟨?_, fun p hp => (nomatch hp), trivial⟩ (fun σ' H' y ρ' g f' n => n.elim) fun v H' y e g iv hd ht => ?_
    · rw [er0]
      exact start_sg (N := n_law_cap) h1
    · obtain ⟨i, rfl, i1, i2⟩ := ht
      cases hd
      refine h3 H' i ?_ i1 i2
      have g' : Same (erL Mu0.ad H) (erL Mu0.ad H') := g
      rw [er0, er0] at g'
      exact g'
  refine eob_seq (eob_set (N := fun _ ρ' => ρ' = [some (encR r), some (.int there), some (.int 20), some (.int 1)]) (Em.pure ed_int rfl) (fun p hp => (nomatch hp)) fun y e h => by rw [h.2]; rfl) ?_
  rintro y ρ' rfl
  refine eob_seq (eob_while (N := fun _ ρ' => ∃ c : Int, 1 ≤ c ∧ c ≤ 20 ∧ ρ' = [some (encR r), some (.int there), some (.int 20), some (.int c)]) (fun m _ ρ1 => ∃ c : Int, 1 ≤ c ∧ c ≤ 20 ∧ m = (20 - c).toNat ∧ ρ1 = [some (encR r), some (.int there), some (.int 20), some (.int c)]) 19 ⟨1, by decide, by decide, rfl, rfl⟩ ?_) ?_
  · rintro m z ρ1 ⟨c, c1, c2, rfl, rfl⟩
    refine ⟨fun _ b => b = (decide (c < 20) && decide (top r (some (c + 1)) ≤ there)), ?_, ?_, ?_⟩
    · intro σ H Q f q
      refine EmT.pure (M := Mu0) (x := z) (et_and (et_test (ed_lt (ed_var rfl) (ed_var rfl))) fun hc => et_test (ed_le (ed_call (r, some (c + 1)) (ea_cons (ed_var rfl) (ea_cons (ed_add (ed_var rfl) ed_int) ea_nil)) ⟨hr1, hr2, fun y e => by cases e; omega⟩) (ed_var rfl))) σ H Q f fun b H' y g iv h => q b H' y g iv h.2
    · intro z2 hb
      have hc := of_decide_eq_true (Bool.and_eq_true_iff.mp hb.symm).1
      exact eob_set (Em.pure (ed_add (ed_var rfl) ed_int) rfl) (fun p hp => (nomatch hp)) fun y e h => ⟨(20 - (c + 1)).toNat, by omega, c + 1, by omega, by omega, rfl, by rw [h.2]; rfl⟩
    · intro z2 hb
      exact ⟨c, c1, c2, rfl⟩
  · rintro y ρ' ⟨c, c1, c2, rfl⟩
    exact eob_ret (Em.imp (Em.pure (ed_var rfl) rfl) fun y e h => ⟨c, h.2, c1, c2⟩)
abbrev spTill : Sp := fun vs H Q _ => ∃ (d : Addr) (r : Rt Str) (v : V), vs = [.ref d, v] ∧ Dv (erL [d] H) v (encR r) ∧ Sh 3 r ∧ Dg d H ∧ ∀ v' H' p, Gone (MuD d) H H' → Dg d H' → Dv (erL [d] H') v' (encP p) → Few p 1000 → Q v' H'
theorem heap_few {l : List Int} (h : ∀ n ∈ l, 1 ≤ n ∧ n ≤ 1000) (hl : l.length ≤ 1000) : Few (heapP (PySem.W.sortI l)) 1000 := by
  have pm := PySem.W.sortI_perm l
  have hi := heap_hi _ (PySem.W.sortI l) rfl (PySem.W.sortI_rises l)
  refine ⟨hi.grow, fun x hx => ?_, by rw [hi.tot, pm.length_eq]; omega⟩
  obtain ⟨h1, h2⟩ := hi.at_ x hx
  have := h _ (pm.mem_iff.mp h1)
  omega
theorem em_cap {d c : Addr} {hdc : d ≠ c} {cs : List Int} {ρ : En} {r : Rt Str} (hr1 : rb r) (hr2 : dep r ≤ 4) (h1 : ρ[1]? = some (some (encR r))) (hl : ρ.length = 8) :
    Em (MuC d c hdc) cs ρ (tCall spCap [] E0 (tCons (tVar 1) (tCons (tCB (rSum K) (tCons (tVar 2) tNil)) (tCons (tC (.int 20)) tNil)))) (fun y e => y = cs ∧ PI (fun i => 1 ≤ i ∧ i ≤ 20) e) := fun σ H Q f q => by
  have h1' : (ρ.set 2 (some (.list (cs.map .int))))[1]? = some (some (encR r)) := by rw [List.getElem?_set_ne (by decide)]; exact h1
  have h2' : (ρ.set 2 (some (.list (cs.map .int))))[2]? = some (some (.list (cs.map .int))) := List.getElem?_set_self (by omega)
  refine ea_cons (ed_var h1') (ea_cons (ed_sum (ed_var h2') rfl) (ea_cons ed_int ea_nil)) σ H _ (MuC.sg f) fun vs H1 e1 h => ?_
  refine ⟨r, cs.sum, by rw [List.append_nil]; exact h, hr1, hr2, fun H2 i e2 i1 i2 => ?_⟩
  have e := e1.trans e2
  exact q _ H2 cs (.int i) (erL_same e) ((MuC d c hdc).st cs _ _ e f.iv) (.int i) ⟨rfl, i, rfl, i1, i2⟩
abbrev s_law_till : Stmt := topS 36
abbrev n_law_till : List Str := ["_law_digits", "_law_right_here", "_law_coins_here", "_law_due", "_law_coin", "_law_way", "_law_at", "_law_k"]
theorem sc_law_till : FnScope n_law_till ["_law_digits", "_law_right_here"] (defScope s_law_till) := ⟨rfl, rfl, rfl, by decide +kernel, rfl, by decide +kernel, by decide +kernel⟩
theorem ok_law_till (D : Dfn K mg "_law_till" s_law_till ["_law_digits", "_law_right_here"]) (Z : Bi mg) (C_law_top : Cal P w K mg base "_law_top" 4 (spTop 4)) (C_law_cap : Cal P w K mg base "_law_cap" 5 spCap) (C_law_take : Cal P w K mg base "_law_take" 1 spTk) (C_law_heap : Cal P w K mg base "_law_heap" 1 spHeap) : Cal P w K mg base "_law_till" 6 spTill := by
  refine D.cal fun f fd F => F.ok sc_law_till (fun vs H Q E h => ?_) (fun cdv A outer s0 H vs Q E hr h => ?_)
  · obtain ⟨d, r, v, rfl, _⟩ := h
    rfl
  obtain ⟨d, r, v, rfl, hv, hsh, hdg, h5⟩ := h
  obtain ⟨hr1, hr2⟩ := hsh.rb
  have hdue : top r .none ≤ 270 := hsh.bd.2
  refine ⟨_, (pss_cons (ps_set (i := 2) sc_law_till.nd rfl (Or.inl rfl) (pe_lst pa_nil))
    (pss_cons (ps_set (i := 3) sc_law_till.nd rfl (Or.inl rfl) (pe_cal C_law_top (hr.mono (by omega)) rfl (pa_cons (pv 1) (pa_cons pe_non pa_nil))))
    (pss_cons (ps_while PassesOwn.never (pt_cmpR op_lt (pe_callB (cr_sum rfl) rfl Z.sum bt_sum (pa_cons (pv 2) pa_nil)) (pv 3) (nomark _))
      (pss_cons (ps_set (i := 4) sc_law_till.nd rfl (Or.inl rfl) (pe_op op_sub (pe_cal C_law_cap (hr.mono (by omega)) rfl (pa_cons (pv 1) (pa_cons (pe_callB (cr_sum rfl) rfl Z.sum bt_sum (pa_cons (pv 2) pa_nil)) (pa_cons pe_int pa_nil)))) (pe_op op_mul (pe_cal C_law_take (hr.mono (by omega)) rfl (pa_cons (pv 0) (pa_cons pe_int pa_nil))) (pe_cal C_law_take (hr.mono (by omega)) rfl (pa_cons (pv 0) (pa_cons pe_int pa_nil))))))
    (pss_one (ps_expr (pe_bm PySem.F.plainAttrs_list PySem.F.slot_list_append PySem.F.type_list_append mt_append (pv 2) (pa_cons (pe_callB (call_max2 rfl) rfl Z.max bt_max (pa_cons pe_int (pa_cons (pv 4) pa_nil))) pa_nil))))))
    (pss_cons (ps_set (i := 5) sc_law_till.nd rfl (Or.inl rfl) (pe_cal C_law_take (hr.mono (by omega)) rfl (pa_cons (pv 0) (pa_cons pe_int pa_nil))))
    (pss_cons (ps_if (PW.pt (pw_and (pt_cmpR op_eq (pv 5) pe_int (nomark _)) (pw_and1 (pt_cmpR (op_neD hr.units) (pv 2) (pe_lst pa_nil) (nomark _))))) (pss_one (ps_expr (pe_bm PySem.F.plainAttrs_list PySem.F.slot_list_pop PySem.F.type_list_pop mt_popAt (pv 2) (pa_cons (pe_cal C_law_take (hr.mono (by omega)) rfl (pa_cons (pv 0) (pa_cons (pe_callB call_len_seq rfl Z.len bt_len (pa_cons (pv 2) pa_nil)) pa_nil))) pa_nil)))) pss_nil)
    (pss_cons (ps_if (PW.pt (pw_and (pt_cmpR op_eq (pv 5) pe_int (nomark _)) (pw_and1 (pt_cmpR (op_neD hr.units) (pv 2) (pe_lst pa_nil) (nomark _))))) (pss_cons (ps_set (i := 6) sc_law_till.nd rfl (Or.inl rfl) (pe_cal C_law_take (hr.mono (by omega)) rfl (pa_cons (pv 0) (pa_cons (pe_callB call_len_seq rfl Z.len bt_len (pa_cons (pv 2) pa_nil)) pa_nil))))
    (pss_one (ps_asg (pe_op op_add (pe_ix ix_list (pv 2) (pv 6) (fun _ _ => rfl)) pe_int) (pg_sub (pv 2) (pv 6) set_list)))) pss_nil)
    (pss_cons (ps_if (pt_cmpR op_eq (pv 5) pe_int (nomark _)) (pss_one (ps_set (i := 2) sc_law_till.nd rfl (Or.inl rfl) (pe_op op_cat (pv 2) (pe_lc (own := [("_law_k", 7)]) (g := (gName 7)) (tt := tYes) rfl sc_law_till.nd (pi_range1 rfl Z.range (pa_cons pe_int pa_nil)) (blkOk_by (own := [("_law_k", 7)]) (N := n_law_till) (sc := defScope s_law_till) (by decide +kernel)) (fun _ _ _ _ _ => (pg_name (i := 7) sc_law_till.nd rfl (Or.inl rfl))) (fun _ _ _ _ _ => pts_nil) (fun _ _ _ _ _ => (pe_op op_add pe_int (pe_cal C_law_take (hr.mono (by omega)) rfl (pa_cons (pv 0) (pa_cons pe_int pa_nil))))))))) pss_nil)
    (pss_one (ps_ret (pe_cal C_law_heap (hr.mono (by omega)) rfl (pa_cons (pv 2) pa_nil))))))))))), ?_⟩
  suffices hh : Eob (MuD d) () [none, some (encR r), none, none, none, none, none, none] _ (fun _ _ => False) (fun _ c => ∃ p, c = encP p ∧ Few p 1000) by
    refine hh _ _ H ⟨⟨rfl, fun i e h => ?_⟩, fun p hp => ?_, hdg⟩ (fun σ' H' y ρ' g f' n => n.elim) fun v H' y e g iv hd ht => ?_
    · rcases i with _ | _ | _ | _ | _ | _ | _ | _ | i <;> simp at h
      subst h
      exact ⟨_, rfl, hv⟩
    · rw [show p = (0, d) from List.mem_singleton.mp hp]
      rfl
    · obtain ⟨p, rfl, hp⟩ := ht
      exact h5 v H' p g iv hd hp
  refine eobc_new rfl fun c hdc => ?_
  have nix : ∀ j, 3 ≤ j → ∀ p ∈ (MuC d c hdc).ix, j ≠ p.1 := fun j hj p hp => by
    have : p = (0, d) ∨ p = (2, c) := by simpa [MuC] using hp
    rcases this with rfl | rfl <;> (simp only; omega)
  generalize hD : top r .none = due at hdue
  refine eob_seq (eob_set (N := fun y ρ' => y = [] ∧ ρ' = [none, some (encR r), none, some (.int due), none, none, none, none]) (Em.pure (Ed.is (ed_call (r, none) (ea_cons (ed_var rfl) (ea_cons ed_non ea_nil)) ⟨hr1, hr2, fun y e => nomatch e⟩) (congrArg PyData.int hD)) rfl) (nix 3 (by decide)) fun y e h => ⟨h.1, by rw [h.2]; rfl⟩) ?_
  rintro y ρ' ⟨rfl, rfl⟩
  refine eob_seq (eob_while (N := fun y ρ' => y.length ≤ 300 ∧ (∀ n ∈ y, 1 ≤ n ∧ n ≤ 20) ∧ ∃ e4, ρ' = [none, some (encR r), none, some (.int due), e4, none, none, none]) (fun m y ρ1 => m = (due - y.sum).toNat ∧ y.sum ≤ 300 ∧ (y.length : Int) ≤ y.sum ∧ (∀ n ∈ y, 1 ≤ n ∧ n ≤ 20) ∧ ∃ e4, ρ1 = [none, some (encR r), none, some (.int due), e4, none, none, none]) due.toNat ⟨by simp, by simp, by simp, fun n h => (nomatch h), none, rfl⟩ ?_) ?_
  · rintro m cs ρ1 ⟨rfl, s1, s2, s3, e4, rfl⟩
    refine ⟨fun y b => y = cs ∧ b = decide (cs.sum < due), emtc_read (et_test (ed_lt (ed_sum (ed_var rfl) rfl) (ed_var rfl))), ?_, ?_⟩
    · rintro z ⟨rfl, hb⟩
      have hlt := of_decide_eq_true hb.symm
      refine eob_seq (eob_set (N := fun y ρ' => y = z ∧ ∃ i : Int, i ≤ 20 ∧ ρ' = [none, some (encR r), none, some (.int due), some (.int i), none, none, none]) (em_sub2 (S := fun i => i ≤ 20) (em_cap hr1 hr2 rfl rfl) (em_mul2 (S := fun i => 0 ≤ i) (emc_take ed_int (by decide) (by decide)) (emc_take ed_int (by decide) (by decide)) fun a b h1 h2 => ⟨.inl ⟨by omega, by omega⟩, Int.mul_nonneg h1.1 h2.1⟩) fun a b h1 h2 => by omega) (nix 4 (by decide)) ?_) ?_
      · rintro y e ⟨rfl, i, rfl, hi⟩
        exact ⟨rfl, i, hi, rfl⟩
      · rintro y ρ' ⟨hy, i, hi, rfl⟩
        obtain rfl : z = y := hy.symm
        refine eobc_append (i := max 1 i) (ed_max2 ed_int (ed_var rfl)) (by omega) (by omega) ⟨(due - (z ++ [max 1 i]).sum).toNat, ?_, rfl, ?_, ?_, fun n hn => ?_, some (.int i), rfl⟩
        · rw [List.sum_append]
          simp only [List.sum_cons, List.sum_nil]
          omega
        · rw [List.sum_append]
          simp only [List.sum_cons, List.sum_nil]
          omega
        · rw [List.sum_append, List.length_append]
          simp only [List.sum_cons, List.sum_nil, List.length_cons, List.length_nil]
          omega
        · rcases List.mem_append.mp hn with hn | hn
          · exact s3 n hn
          · rw [List.mem_singleton.mp hn]
            omega
    · rintro z ⟨rfl, hb⟩
      exact ⟨by omega, s3, e4, rfl⟩
  rintro cs ρ' ⟨l1, l2, e4, rfl⟩
  refine eob_seq (eob_set (N := fun y ρ' => y = cs ∧ ∃ i : Int, ρ' = [none, some (encR r), none, some (.int due), e4, some (.int i), none, none]) (emc_take ed_int (by decide) (by decide)) (nix 5 (by decide)) ?_) ?_
  · rintro y e ⟨rfl, i, rfl, hi⟩
    exact ⟨rfl, i, rfl⟩
  rintro y ρ' ⟨hy, i, rfl⟩
  obtain rfl : cs = y := hy.symm
  refine eob_seq (eob_if (N := fun y ρ' => y.length ≤ 300 ∧ (∀ n ∈ y, 1 ≤ n ∧ n ≤ 20) ∧ ρ' = [none, some (encR r), none, some (.int due), e4, some (.int i), none, none]) (emtc_read (et_and (et_test (ed_eqI (ed_var rfl) ed_int)) fun _ => et_test (ed_neL rfl))) ?_ ?_) ?_
  · rintro y ⟨rfl, hb⟩
    have hne : y ≠ [] := by
      have := (Bool.and_eq_true_iff.mp hb.symm).2
      intro z
      rw [z] at this
      cases this
    refine eobc_pop (emc_take (Ed.is (ed_lenL (ed_var rfl)) (by rw [List.length_map])) ?_ (by omega)) fun j => ⟨Nat.le_trans (List.length_eraseIdx_le ..) l1, fun n hn => l2 n (List.mem_of_mem_eraseIdx hn), rfl⟩
    have := List.length_pos_iff.mpr hne
    omega
  · rintro y ⟨rfl, hb⟩
    exact eob_next ⟨l1, l2, rfl⟩
  clear l1 l2
  rintro cs ρ' ⟨l1, l2, rfl⟩
  refine eob_seq (eob_if (N := fun y ρ' => y.length ≤ 300 ∧ (∀ n ∈ y, 1 ≤ n ∧ n ≤ 21) ∧ ∃ e6, ρ' = [none, some (encR r), none, some (.int due), e4, some (.int i), e6, none]) (emtc_read (et_and (et_test (ed_eqI (ed_var rfl) ed_int)) fun _ => et_test (ed_neL rfl))) ?_ ?_) ?_
  · rintro y ⟨hy, hb⟩
    obtain rfl : cs = y := hy.symm
    have hne : cs ≠ [] := by
      have := (Bool.and_eq_true_iff.mp hb.symm).2
      intro z
      rw [z] at this
      cases this
    have hpos := List.length_pos_iff.mpr hne
    refine eob_seq (eob_set (N := fun y ρ' => y = cs ∧ ∃ j : Nat, j < cs.length ∧ ρ' = [none, some (encR r), none, some (.int due), e4, some (.int i), some (.int (j : Int)), none]) (emc_take (Ed.is (ed_lenL (ed_var rfl)) (by rw [List.length_map])) (by omega) (by omega)) (nix 6 (by decide)) ?_) ?_
    · rintro y e ⟨rfl, j, rfl, j1, j2⟩
      exact ⟨rfl, j.toNat, by omega, by rw [show (j.toNat : Int) = j by omega]; rfl⟩
    · rintro y ρ' ⟨hy, j, hj, rfl⟩
      obtain rfl : cs = y := hy.symm
      have hm := l2 _ (List.getElem_mem hj)
      refine eobc_put (v := cs[j] + 1) (j := j) (ed_add (ed_ixL (ds := cs.map .int) (i := (j : Int)) (ed_var rfl) (ed_var rfl) ?_) ed_int) (ed_var rfl) hj (by omega) ⟨by rw [List.length_set]; exact l1, fun n hn => ?_, some (.int (j : Int)), rfl⟩
      · unfold L2.atI
        rw [List.length_map, ixN_nat hj]
        show (cs.map PyData.int)[j]? = _
        rw [List.getElem?_map, List.getElem?_eq_getElem hj]
        rfl
      · rcases List.mem_or_eq_of_mem_set hn with hn | rfl
        · have := l2 n hn
          omega
        · omega
  · rintro y ⟨hy, hb⟩
    obtain rfl : cs = y := hy.symm
    exact eob_next ⟨l1, fun n hn => by have := l2 n hn; omega, none, rfl⟩
  clear l1 l2
  rintro cs ρ' ⟨l1, l2, e6, rfl⟩
  refine eobc_free ?_
  show Eob (MuD d) () [none, some (encR r), some (.list (cs.map .int)), some (.int due), e4, some (.int i), e6, none] _ _ _
  have nix1 : ∀ j, 1 ≤ j → ∀ p ∈ (MuD d).ix, j ≠ p.1 := fun j hj p hp => by
    rw [show p = (0, d) from List.mem_singleton.mp hp]
    show j ≠ 0
    omega
  refine eob_seq (eob_if (N := fun _ ρ' => ∃ l : List Int, l.length ≤ 1000 ∧ (∀ n ∈ l, 1 ≤ n ∧ n ≤ 1000) ∧ ρ' = [none, some (encR r), some (.list (l.map .int)), some (.int due), e4, some (.int i), e6, none]) (EmT.pure (et_test (ed_eqI (ed_var rfl) ed_int))) ?_ ?_) ?_
  · rintro y ⟨_, hb⟩
    refine eob_set (em_catL (TL := fun es => ∃ l : List Int, es = l.map .int ∧ l.length ≤ 3 ∧ ∀ n ∈ l, 1 ≤ n ∧ n ≤ 12) rfl (Em.imp (em_lc (U := fun ds => ∃ n, n = 3 ∧ ds = upTo n) (T0 := fun c => PI (fun i => 1 ≤ i ∧ i ≤ 12) c) (emj_range (S := fun n => n = 3) (emi1 ed_int rfl) fun n h => by omega) ?_ ?_ ?_ ?_) ?_) ?_) (nix1 2 (by decide)) ?_
    · intro p hp hm
      exact nix1 7 (by decide) p hp (List.mem_singleton.mp hm).symm
    · rintro ds ⟨n, rfl, rfl⟩
      decide
    · rintro c ⟨j, rfl, _⟩
      rfl
    · rintro ds j e y ⟨n, rfl, rfl⟩ he
      have hj : j < (3 : Int).toNat := by
        have := (List.getElem?_eq_some_iff.mp he).1
        rw [upTo_len] at this
        exact this
      rw [upTo_get hj] at he
      cases he
      exact ⟨_, _, eg_name, by decide, noJ0.set (js' := [7]) rfl (by simp), em_add1 (S1 := fun i => i = 1) (S2 := fun i => 0 ≤ i ∧ i < 12) (emi1 ed_int rfl) (fun y => em_take1 (List.mem_singleton.mpr rfl) (List.mem_singleton.mpr rfl) MuD.dg ed_int (by decide) (by decide)) fun a b h1 h2 => by omega⟩
    · rintro y c ⟨es, ds, rfl, ⟨n, rfl, rfl⟩, hl, he⟩
      rw [upTo_len] at hl
      refine ⟨es, rfl, ?_⟩
      have : ∀ es : List PD, (∀ e ∈ es, PI (fun i => 1 ≤ i ∧ i ≤ 12) e) → ∃ l : List Int, es = l.map .int ∧ l.length = es.length ∧ ∀ n ∈ l, 1 ≤ n ∧ n ≤ 12 := fun es => by
        induction es with
        | nil => exact fun _ => ⟨[], rfl, rfl, fun n h => nomatch h⟩
        | cons e es ih =>
          intro he
          obtain ⟨l, e1, e2, e3⟩ := ih fun e h => he e (List.mem_cons_of_mem _ h)
          obtain ⟨j, h1, h2⟩ := he e (List.mem_cons_self ..)
          refine ⟨j :: l, by rw [e1, h1]; rfl, by rw [List.length_cons, List.length_cons, e2], fun n hn => ?_⟩
          rcases List.mem_cons.mp hn with rfl | hn
          · exact h2
          · exact e3 n hn
      obtain ⟨l, e1, e2, e3⟩ := this es he
      exact ⟨l, e1, by rw [e2, hl]; decide, e3⟩
    · rintro es ⟨l, rfl, h1, h2⟩
      rw [List.length_map, List.length_map]
      omega
    · rintro y e ⟨es, rfl, l, rfl, h1, h2⟩
      refine ⟨cs ++ l, by rw [List.length_append]; omega, fun n hn => ?_, by rw [List.map_append]; rfl⟩
      rcases List.mem_append.mp hn with hn | hn
      · have := l2 n hn
        omega
      · have := h2 n hn
        omega
  · rintro y ⟨_, hb⟩
    exact eob_next ⟨cs, by omega, fun n hn => by have := l2 n hn; omega, rfl⟩
  rintro y ρ' ⟨l, h1, h2, rfl⟩
  exact eob_ret (Em.imp (Em.pure (ed_call l (ea_cons (ed_var rfl) ea_nil) h1) (noL_encP _)) fun y e h => ⟨⟨_, h.2, heap_few h2 h1⟩, by rw [h.2]; exact noL_encP _⟩)
end
end K27
end
section
set_option Elab.async false
set_option linter.all false
set_option maxRecDepth 100000
set_option maxHeartbeats 1000000
namespace K27
open PySem PySem.Spec PyProof.Rows L2

local macro_rules | `(tactic| walk_at "ed") => `(tactic| first
  | exact ed_var rfl | exact ed_int | exact ed_str | exact ed_non | exact ed_bl
  | (apply ed_ixT <;> first | rfl | walk_at "ed")
  | (apply ed_add <;> walk_at "ed")
  | (apply ed_sub <;> walk_at "ed")
  | (apply ed_min2 <;> walk_at "ed")
  | (apply ed_max2 <;> walk_at "ed")
  | (apply ed_eqS <;> walk_at "ed")
  | (apply ed_neS <;> walk_at "ed")
  | (apply ed_isN <;> walk_at "ed")
  | (apply ed_notN <;> walk_at "ed")
  | (apply ed_lt <;> walk_at "ed")
  | (apply ed_le <;> walk_at "ed")
  | (apply ed_gt <;> walk_at "ed")
  | (apply ed_ge <;> walk_at "ed")
  | (apply ed_mul <;> first | walk_at "ed" | skip)
  | (apply ed_in2 <;> walk_at "ed")
  | (apply ed_tup <;> first | (show EdA _ _ _; walk_at "ea") | (simp only [List.length_cons, List.length_nil]; decide) | skip)
  | (apply ed_lst <;> first | (show EdA _ _ _; walk_at "ea") | (simp only [List.length_cons, List.length_nil]; decide) | skip)
  | skip)
local macro_rules | `(tactic| walk_at "ea") => `(tactic| first
  | exact ea_nil
  | (apply ea_cons <;> first | (show EdA _ _ _; walk_at "ea") | walk_at "ed"))
local macro_rules | `(tactic| walk_at "set") => `(tactic| (refine' eo_seq (eo_set ?kz1) ?kz2; (case kz1 => walk_at "ed")))
local macro_rules | `(tactic| walk_at "et") => `(tactic| first
  | (refine' et_test ?kz1; (case kz1 => walk_at "ed"))
  | (refine' et_B ?kz1; (case kz1 => walk_at "ed"))
  | skip)
local macro_rules | `(tactic| walk_at "F") => `(tactic| (refine' eo_seq (eo_ifF (Et.is (et_test ?kz1) ?kz2) eo_next) ?kz3; (case kz1 => walk_at "ed"); (case kz2 => decide)))
local macro_rules | `(tactic| walk_at "T") => `(tactic| (refine' eo_ret1 (eo_ifT (Et.is (et_test ?kz1) ?kz2) (eo_ret ?kz3)); (case kz1 => walk_at "ed"); (case kz2 => decide)))
local macro_rules | `(tactic| walk_at "TB") => `(tactic| (refine' eo_ret1 (eo_ifT (Et.is (et_test ?kz1) ?kz2) ?kz3); (case kz1 => walk_at "ed"); (case kz2 => decide)))

/-- the script, wherever it stands -/
structure Scr (K : PySem.W.Frag) (a : Addr) (ns : List Int) where
  ad : List Addr
  inv : Hp → Prop
  ag : ∀ H H', (∀ b ∈ ad, H' b = H b) → inv H → inv H'
  fz : ∀ H, inv H → ∀ b ∈ ad, ∃ o xs, H b = some (.frz o (.lst xs))
  sq : ∀ H, inv H → SqL K H a (ns.map V.int)
theorem scr_of {K : PySem.W.Frag} {a : Addr} {ns : List Int} {H : Hp} (h : SqL K H a (ns.map V.int)) (ho : Only H) : ∃ S : Scr K a ns, S.inv H := by
  rcases h with (h | ⟨o, h⟩) | h
  · rcases ho a with z | ⟨o, xs, z⟩
    · rw [z] at h
      cases h
    · rw [z] at h
      cases h
  · exact ⟨⟨[a], fun H => H a = some (.frz o (.lst (ns.map V.int))), fun H H' e i => (e a (List.mem_singleton.mpr rfl)).trans i, fun H i b hb => by rw [List.mem_singleton.mp hb]; exact ⟨_, _, i⟩, fun H i => .inl (.inr ⟨o, i⟩)⟩, h⟩
  · exact ⟨⟨[], fun _ => True, fun _ _ _ _ => trivial, fun _ _ b hb => (nomatch hb), fun _ _ => .inr h⟩, trivial⟩
def MuS {K : PySem.W.Frag} {a : Addr} {ns : List Int} (S : Scr K a ns) : Mu Unit where
  ad := S.ad
  ix := [(0, a)]
  inv _ H := S.inv H
  ag _ H H' e i := S.ag H H' e i
  lv _ H i b hb := by
    obtain ⟨o, xs, h⟩ := S.fz H i b hb
    exact ⟨_, h⟩
  nf _ H i b hb p xs := by
    obtain ⟨o, ys, h⟩ := S.fz H i b hb
    rw [h]
    intro z
    cases z
def mixF (c k : Int) : Int :=
  ((c % 2147483647 * 48271 + k * 69621 + 1048583) % 2147483629 * ((c % 2147483647 * 48271 + k * 69621 + 1048583) % 2147483629) % 2147483587) * ((c % 2147483647 * 48271 + k * 69621 + 1048583) % 2147483629 * ((c % 2147483647 * 48271 + k * 69621 + 1048583) % 2147483629) % 2147483587 + 2) % 2147483579
theorem ed_pow {ρ : En} {ta tb : TE} {i j : Int} (ha : Ed ρ ta (.int i)) (hb : Ed ρ tb (.int j)) (hc : CPow i j) : Ed ρ (tOp (rI CPow fun i j => .int (i ^ j.toNat)) ta tb) (.int (i ^ j.toNat)) := ed_rI ha hb hc fun _ => .int _
theorem ed_mulW {ρ : En} {ta tb : TE} {i j : Int} (ha : Ed ρ ta (.int i)) (hb : Ed ρ tb (.int j)) (hc : CMulW i j) : Ed ρ (tOp (rI CMulW fun i j => .int (i * j)) ta tb) (.int (i * j)) := ed_rI ha hb hc fun _ => .int _
section
variable {P : Program} {w : World} {K : PySem.W.Frag} {mg : Str → Option Value} {base : Heap}
abbrev spMix : Sp := spD (fun a : Int × Int => [.int a.1, .int a.2]) (fun a => 0 ≤ a.2 ∧ a.2 ≤ 1000000) fun a => .int (mixF a.1 a.2)
abbrev s_law_mixed : Stmt := topS 23
abbrev n_law_mixed : List Str := ["_law_cell_here", "_law_k", "_law_mix"]
theorem sc_law_mixed : FnScope n_law_mixed ["_law_cell_here", "_law_k"] (defScope s_law_mixed) := ⟨rfl, rfl, rfl, by decide +kernel, rfl, by decide +kernel, by decide +kernel⟩
theorem ok_law_mixed (D : Dfn K mg "_law_mixed" s_law_mixed ["_law_cell_here", "_law_k"]) (Z : Bi mg) : Cal P w K mg base "_law_mixed" 1 spMix := by
  refine D.cal fun f fd F => def_ok F sc_law_mixed (fun _ => rfl) fun cdv A outer s H E hr => ?_
  refine ⟨_, (pss_cons (ps_set (i := 2) sc_law_mixed.nd rfl (Or.inl rfl) (pe_op op_mod (pe_op op_add (pe_op op_add (pe_op op_mul (pe_op op_mod (pv 0) pe_int) pe_int) (pe_op op_mul (pv 1) pe_int)) pe_int) pe_int))
    (pss_cons (ps_set (i := 2) sc_law_mixed.nd rfl (Or.inl rfl) (pe_op op_mod (pe_op op_mul (pv 2) (pv 2)) pe_int))
    (pss_one (ps_ret (pe_op op_mod (pe_op op_mul (pv 2) (pe_op op_add (pv 2) pe_int)) pe_int))))), fun a hp => ?_⟩
  obtain ⟨c, k⟩ := a
  obtain ⟨h1, h2⟩ := hp
  simp only at h1 h2
  show Eo [some (.int c), some (.int k), none] _ (.rt (.int (mixF c k)))
  unfold mixF
  have a1 := Int.emod_nonneg c (show (2147483647 : Int) ≠ 0 by decide)
  have a2 := Int.emod_lt_of_pos c (show (0 : Int) < 2147483647 by decide)
  refine eo_seq (eo_set (ed_mod (ed_add (ed_add (ed_mul (ed_mod (ed_var rfl) ed_int (by decide)) ed_int (.inl ⟨by omega, by omega⟩)) (ed_mul (ed_var rfl) ed_int (.inl ⟨by omega, by omega⟩))) ed_int) ed_int (by decide))) ?_
  generalize c % 2147483647 * 48271 + k * 69621 + 1048583 = m
  have b1 := Int.emod_nonneg m (show (2147483629 : Int) ≠ 0 by decide)
  have b2 := Int.emod_lt_of_pos m (show (0 : Int) < 2147483629 by decide)
  refine eo_seq (eo_set (ed_mod (ed_mul (ed_var rfl) (ed_var rfl) (.inl ⟨by omega, by omega⟩)) ed_int (by decide))) ?_
  generalize m % 2147483629 * (m % 2147483629) = n
  have c1 := Int.emod_nonneg n (show (2147483587 : Int) ≠ 0 by decide)
  have c2 := Int.emod_lt_of_pos n (show (0 : Int) < 2147483587 by decide)
  exact eo_ret (ed_mod (ed_mul (ed_var rfl) (ed_add (ed_var rfl) ed_int) (.inl ⟨by omega, by omega⟩)) ed_int (by decide))
theorem mix_nn (c k : Int) : 0 ≤ mixF c k := Int.emod_nonneg _ (by decide)
abbrev spCell (K : PySem.W.Frag) : Sp := fun vs H Q _ => ∃ (a : Addr) (ns : List Int) (S : Scr K a ns) (k : Int), vs = [.ref a, .int k] ∧ S.inv H ∧ ns.length ≤ 63 ∧ 0 ≤ k ∧ k ≤ 100 ∧ ∀ n H', Gone (MuS S) H H' → S.inv H' → 0 ≤ n → Q (.int n) H'
abbrev s_law_cell : Stmt := topS 24
abbrev n_law_cell : List Str := ["_law_script", "_law_k", "_law_cell_here", "_law_found", "_law_j"]
theorem sc_law_cell : FnScope n_law_cell ["_law_script", "_law_k"] (defScope s_law_cell) := ⟨rfl, rfl, rfl, by decide +kernel, rfl, by decide +kernel, by decide +kernel⟩
theorem ok_law_cell (D : Dfn K mg "_law_cell" s_law_cell ["_law_script", "_law_k"]) (Z : Bi mg) (C_law_mixed : Cal P w K mg base "_law_mixed" 1 spMix) : Cal P w K mg base "_law_cell" 2 (spCell K) := by
  refine D.cal fun f fd F => F.ok sc_law_cell (fun vs H Q E h => ?_) (fun cdv A outer s0 H vs Q E hr h => ?_)
  · obtain ⟨a, ns, S, k, rfl, _⟩ := h
    rfl
  obtain ⟨a, ns, S, k, rfl, hiv, hl, k1, k2, h5⟩ := h
  refine ⟨_, (pss_cons (ps_set (i := 2) sc_law_cell.nd rfl (Or.inl rfl) pe_int)
    (pss_cons (ps_if (pt_cmpR op_lt (pv 1) (pe_callB call_len_seq rfl Z.len bt_len (pa_cons (pv 0) pa_nil)) (nomark _)) (pss_one (ps_set (i := 2) sc_law_cell.nd rfl (Or.inl rfl) (pe_ix ix_list (pv 0) (pv 1) (fun _ _ => rfl)))) pss_nil)
    (pss_cons (ps_if (pt_cmpR op_ge (pv 2) (pe_op op_pow pe_int pe_int) (nomark _)) (pss_one (ps_ret (pe_op op_mod (pe_op op_sub (pv 2) (pe_op op_pow pe_int pe_int)) (pe_op op_mulW (pe_op op_mulW (pe_op op_mulW (pe_op op_pow pe_int pe_int) (pe_op op_pow pe_int pe_int)) (pe_op op_pow pe_int pe_int)) (pe_op op_pow pe_int pe_int))))) pss_nil)
    (pss_cons (ps_set (i := 3) sc_law_cell.nd rfl (Or.inl rfl) pe_int)
    (pss_cons (ps_for PassesOwn.never rfl (pi_range1 rfl Z.range (pa_cons pe_int pa_nil)) (pg_name (i := 4) sc_law_cell.nd rfl (Or.inl rfl))
      (pss_one (ps_set (i := 3) sc_law_cell.nd rfl (Or.inl rfl) (pe_op op_add (pe_op op_mul (pv 3) pe_int) (pe_cal C_law_mixed (hr.mono (by omega)) rfl (pa_cons (pv 2) (pa_cons (pe_op op_add (pe_op op_add (pe_op op_mul pe_int (pv 1)) (pe_op op_mul pe_int (pv 4))) (pe_op op_mul (pv 4) (pv 4))) pa_nil)))))))
    (pss_one (ps_ret (pv 3)))))))), ?_⟩
  suffices hh : Eob (MuS S) () [none, some (.int k), none, none, none] _ (fun _ _ => False) (fun _ c => PI (fun i => 0 ≤ i) c) by
    refine hh _ _ H ⟨⟨rfl, fun i e h => ?_⟩, fun p hp => ?_, hiv⟩ (fun σ' H' y ρ' g f' n => n.elim) fun v H' y e g iv hd ht => ?_
    · rcases i with _ | _ | _ | _ | _ | i <;> simp at h
      subst h
      exact ⟨_, rfl, .int _⟩
    · rw [show p = (0, a) from List.mem_singleton.mp hp]
      rfl
    · obtain ⟨i, rfl, hi⟩ := ht
      cases hd
      exact h5 i H' g iv hi
  have nix : ∀ j, 1 ≤ j → ∀ p ∈ (MuS S).ix, j ≠ p.1 := fun j hj p hp => by
    rw [show p = (0, a) from List.mem_singleton.mp hp]
    show j ≠ 0
    omega
  refine eob_seq (eob_set (N := fun _ ρ' => ρ' = [none, some (.int k), some (.int 0), none, none]) (Em.pure ed_int rfl) (nix 2 (by decide)) fun y e h => by rw [h.2]; rfl) ?_
  rintro y ρ' rfl
  refine eob_seq (eob_if (B := fun _ b => b = decide (k < (ns.length : Int))) (N := fun _ ρ' => ∃ c : Int, ρ' = [none, some (.int k), some (.int c), none, none]) ?_ ?_ ?_) ?_
  · intro σ H Q f q
    obtain ⟨v, g1, g2⟩ := f.sg.at_ 1 _ rfl
    cases g2
    refine ⟨.int k, g1, .ref a, f.vr (0, a) (List.mem_singleton.mpr rfl), a, ns.map V.int, rfl, .inl (S.sq H f.iv), k, ((ns.map V.int).length : Nat), rfl, rfl, decide (k < ((ns.map V.int).length : Nat)), rfl, ?_⟩
    rw [List.length_map]
    exact q _ H () (Same.refl _) f.iv rfl
  · intro y hb
    have hk := of_decide_eq_true hb.symm
    have hj : k.toNat < ns.length := by omega
    refine eob_set (T0 := fun _ e => e = .int ns[k.toNat]) (fun σ H Q f q => ?_) (nix 2 (by decide)) fun y e h => ⟨ns[k.toNat], by rw [h]; rfl⟩
    obtain ⟨v, g1, g2⟩ := f.sg.at_ 1 _ rfl
    cases g2
    refine ⟨.ref a, f.vr (0, a) (List.mem_singleton.mpr rfl), .int k, g1, a, ns.map V.int, k, .int ns[k.toNat], rfl, rfl, S.sq H f.iv, ?_, q _ H () _ (Same.refl _) f.iv (.int _) rfl⟩
    unfold L2.atI
    have ei : ixN ns.length k = some k.toNat := by
      unfold L2.ixN
      rw [if_pos k1, if_pos (by omega)]
    rw [List.length_map, ei]
    show (ns.map V.int)[k.toNat]? = _
    rw [List.getElem?_map, List.getElem?_eq_getElem hj]
    rfl
  · intro y hb
    exact eob_next ⟨0, rfl⟩
  rintro y ρ' ⟨c, rfl⟩
  refine eob_seq (eob_if (N := fun _ ρ' => ρ' = [none, some (.int k), some (.int c), none, none]) (EmT.pure (et_test (ed_ge (ed_var rfl) (ed_pow ed_int ed_int ⟨by decide, by decide, by decide⟩)))) ?_ ?_) ?_
  · intro y hb
    have p1 : (0 : Int) < 10 ^ (60 : Int).toNat * 10 ^ (60 : Int).toNat * 10 ^ (60 : Int).toNat * 10 ^ (60 : Int).toNat := by decide +kernel
    refine eob_ret (Em.imp (Em.pure (ed_mod (ed_sub (ed_var rfl) (ed_pow ed_int ed_int ⟨by decide, by decide, by decide⟩)) (ed_mulW (ed_mulW (ed_mulW (ed_pow ed_int ed_int ⟨by decide, by decide, by decide⟩) (ed_pow ed_int ed_int ⟨by decide, by decide, by decide⟩) ?_) (ed_pow ed_int ed_int ⟨by decide, by decide, by decide⟩) ?_) (ed_pow ed_int ed_int ⟨by decide, by decide, by decide⟩) ?_) p1) rfl) fun y e h => ⟨_, h.2, Int.emod_nonneg _ (by omega)⟩)
    · unfold CMulW; decide +kernel
    · unfold CMulW; decide +kernel
    · unfold CMulW; decide +kernel
  · intro y hb
    exact eob_next rfl
  rintro y ρ' rfl
  refine eob_seq (eob_set (N := fun _ ρ' => ρ' = [none, some (.int k), some (.int c), some (.int 0), none]) (Em.pure ed_int rfl) (nix 3 (by decide)) fun y e h => by rw [h.2]; rfl) ?_
  rintro y ρ' rfl
  refine eob_seq (eob_for (ds := upTo 24) (fun _ _ ρ1 => ∃ (n : Int) (e4 : Option PD), 0 ≤ n ∧ ρ1 = [none, some (.int k), some (.int c), some (.int n), e4]) (emi_range ed_int (by decide) (by decide)) ⟨0, none, by decide, rfl⟩ ?_) ?_
  · rintro i d y ρ1 hd ⟨n, e4, hn, rfl⟩
    have hi : i < (24 : Int).toNat := by
      have := (List.getElem?_eq_some_iff.mp hd).1
      rw [upTo_len] at this
      exact this
    rw [upTo_get hi] at hd
    cases hd
    have hi24 : (i : Int) < 24 := by
      have : i < 24 := hi
      omega
    have hsq : (i : Int) * (i : Int) ≤ 24 * 24 := Int.mul_le_mul (by omega) (by omega) (by omega) (by decide)
    have hsq0 : 0 ≤ (i : Int) * (i : Int) := Int.mul_nonneg (by omega) (by omega)
    refine ⟨_, _, eg_name, fun p hp => ?_, noJ0.set (js' := [4]) rfl (by simp), ?_⟩
    · rw [show p = (0, a) from List.mem_singleton.mp hp]
      show (0 : Nat) ∉ [4]
      decide
    · show Eob (MuS S) y [none, some (.int k), some (.int c), some (.int n), some (.int (i : Int))] _ _ _
      refine eob_set (Em.pure (d := .int (n * 2147483579 + mixF c (7 * k + 100 * (i : Int) + (i : Int) * (i : Int)))) (ed_add (ed_mul (ed_var rfl) ed_int (.inr ⟨by decide, by decide⟩)) (ed_call (c, 7 * k + 100 * (i : Int) + (i : Int) * (i : Int)) (ea_cons (ed_var rfl) (ea_cons (ed_add (ed_add (ed_mul ed_int (ed_var rfl) (.inl ⟨by decide, by decide⟩)) (ed_mul ed_int (ed_var rfl) (.inl ⟨by decide, by decide⟩))) (ed_mul (ed_var rfl) (ed_var rfl) (.inl ⟨by omega, by omega⟩))) ea_nil)) ?_)) rfl) (nix 3 (by decide)) fun y e h => ⟨n * 2147483579 + mixF c (7 * k + 100 * (i : Int) + (i : Int) * (i : Int)), some (.int (i : Int)), ?_, by rw [h.2]; rfl⟩
      · exact ⟨by show 0 ≤ 7 * k + 100 * (i : Int) + (i : Int) * (i : Int); omega, by show 7 * k + 100 * (i : Int) + (i : Int) * (i : Int) ≤ 1000000; omega⟩
      · have := mix_nn c (7 * k + 100 * (i : Int) + (i : Int) * (i : Int))
        omega
  rintro y ρ' ⟨n, e4, hn, rfl⟩
  exact eob_ret (Em.imp (Em.pure (ed_var rfl) rfl) fun y e h => ⟨n, h.2, hn⟩)
end
end K27
end
section
set_option Elab.async false
set_option linter.all false
set_option maxRecDepth 100000
set_option maxHeartbeats 1000000
namespace K27
open PySem PySem.Spec PyProof.Rows L2

local macro_rules | `(tactic| walk_at "ed") => `(tactic| first
  | exact ed_var rfl | exact ed_int | exact ed_str | exact ed_non | exact ed_bl
  | (apply ed_ixT <;> first | rfl | walk_at "ed")
  | (apply ed_add <;> walk_at "ed")
  | (apply ed_sub <;> walk_at "ed")
  | (apply ed_min2 <;> walk_at "ed")
  | (apply ed_max2 <;> walk_at "ed")
  | (apply ed_eqS <;> walk_at "ed")
  | (apply ed_neS <;> walk_at "ed")
  | (apply ed_isN <;> walk_at "ed")
  | (apply ed_notN <;> walk_at "ed")
  | (apply ed_lt <;> walk_at "ed")
  | (apply ed_le <;> walk_at "ed")
  | (apply ed_gt <;> walk_at "ed")
  | (apply ed_ge <;> walk_at "ed")
  | (apply ed_mul <;> first | walk_at "ed" | skip)
  | (apply ed_in2 <;> walk_at "ed")
  | (apply ed_tup <;> first | (show EdA _ _ _; walk_at "ea") | (simp only [List.length_cons, List.length_nil]; decide) | skip)
  | (apply ed_lst <;> first | (show EdA _ _ _; walk_at "ea") | (simp only [List.length_cons, List.length_nil]; decide) | skip)
  | skip)
local macro_rules | `(tactic| walk_at "ea") => `(tactic| first
  | exact ea_nil
  | (apply ea_cons <;> first | (show EdA _ _ _; walk_at "ea") | walk_at "ed"))
local macro_rules | `(tactic| walk_at "set") => `(tactic| (refine' eo_seq (eo_set ?kz1) ?kz2; (case kz1 => walk_at "ed")))
local macro_rules | `(tactic| walk_at "et") => `(tactic| first
  | (refine' et_test ?kz1; (case kz1 => walk_at "ed"))
  | (refine' et_B ?kz1; (case kz1 => walk_at "ed"))
  | skip)
local macro_rules | `(tactic| walk_at "F") => `(tactic| (refine' eo_seq (eo_ifF (Et.is (et_test ?kz1) ?kz2) eo_next) ?kz3; (case kz1 => walk_at "ed"); (case kz2 => decide)))
local macro_rules | `(tactic| walk_at "T") => `(tactic| (refine' eo_ret1 (eo_ifT (Et.is (et_test ?kz1) ?kz2) (eo_ret ?kz3)); (case kz1 => walk_at "ed"); (case kz2 => decide)))
local macro_rules | `(tactic| walk_at "TB") => `(tactic| (refine' eo_ret1 (eo_ifT (Et.is (et_test ?kz1) ?kz2) ?kz3); (case kz1 => walk_at "ed"); (case kz2 => decide)))

/-- script and digits -/
def MuSD {K : PySem.W.Frag} {a : Addr} {ns : List Int} (S : Scr K a ns) (d : Addr) (hd : d ∉ S.ad) : Mu Unit where
  ad := d :: S.ad
  ix := [(2, d), (0, a)]
  inv _ H := Dg d H ∧ S.inv H
  ag _ H H' e i := by
    obtain ⟨⟨n, n0, hn⟩, i⟩ := i
    exact ⟨⟨n, n0, by rw [e d (List.mem_cons_self ..)]; exact hn⟩, S.ag H H' (fun b hb => e b (List.mem_cons_of_mem _ hb)) i⟩
  lv _ H i b hb := by
    obtain ⟨⟨n, n0, hn⟩, i⟩ := i
    rcases List.mem_cons.mp hb with rfl | hb
    · exact ⟨_, hn⟩
    · obtain ⟨o, xs, h⟩ := S.fz H i b hb
      exact ⟨_, h⟩
  nf _ H i b hb p xs := by
    obtain ⟨⟨n, n0, hn⟩, i⟩ := i
    rcases List.mem_cons.mp hb with rfl | hb
    · rw [hn]
      exact fun z => nomatch z
    · obtain ⟨o, ys, h⟩ := S.fz H i b hb
      rw [h]
      intro z
      cases z
theorem erL_get {ad : List Addr} {H : Hp} {b : Addr} {o : HO} (h : erL ad H b = some o) : b ∉ ad ∧ H b = some o := by
  unfold erL at h
  split at h
  · cases h
  · rename_i hb
    exact ⟨hb, h⟩
theorem erL_mk {ad : List Addr} {H : Hp} {b : Addr} {o : HO} (hb : b ∉ ad) (h : H b = some o) : erL ad H b = some o := by
  unfold erL
  rw [if_neg hb]
  exact h
theorem erL_sub {ad bd : List Addr} {H : Hp} (h : ∀ b, b ∈ ad → b ∈ bd) : Same (erL bd H) (erL ad H) := fun b o e => by
  obtain ⟨e1, e2⟩ := erL_get e
  exact erL_mk (fun z => e1 (h b z)) e2
theorem eob_forget {X : Type} {M : Mu X} {x : X} {ρ : En} {t : TS} {T : X → PD → Prop} (h : Eob M x ρ t (fun _ ρ' => ρ'.length = 10) T) : Eob M x ρ t (fun _ ρ' => ρ' = [none, none, none, none, none, none, none, none, none, none]) T := fun D σ H f q r => h D σ H f (fun σ' H' y ρ' g f' hl => q σ' H' y _ g ⟨f'.sg.le (show Le [none, none, none, none, none, none, none, none, none, none] ρ' from ⟨hl.symm, fun i e hi => by
  rcases i with _ | _ | _ | _ | _ | _ | _ | _ | _ | _ | i <;> simp at hi⟩), f'.vr, f'.iv⟩ rfl) r
theorem eob_pure {X : Type} {M : Mu X} {x : X} {ρ : En} {t : TS} {N : X → En → Prop} {d : PD} (h : Eo ρ t (.rt d)) (hn : noL d = true) : Eob M x ρ t N (fun _ e => e = d) := fun D σ H f q r => h D σ H (f.sg.mono (erL_le _ _)) fun v H' e hd => by
  have iv := M.st x _ _ e f.iv
  exact r v H' x d (erL_same e) iv (hd.imm (Mu.imm iv) hn) rfl
theorem EmA.imp {X : Type} {M : Mu X} {x : X} {ρ : En} {ta : TA} {T T' : X → List PD → Prop} (h : EmA M x ρ ta T) (i : ∀ y d, T y d → T' y d) : EmA M x ρ ta T' := fun σ H Q f q => h σ H Q f fun v H' y d g iv hd ht => q v H' y d g iv hd (i y d ht)
theorem emt_not {X : Type} {M : Mu X} {x : X} {ρ : En} {te : TE} (h : Em M x ρ te (fun _ e => e = .bool true)) : EmT M x ρ (tNot (tTest te)) (fun _ b => b = false) := fun σ H Q f q => h σ H _ f fun v H1 y d g iv hd ht => by
  subst ht
  cases hd
  exact ⟨true, rfl, q _ H1 y g iv rfl⟩
theorem em_callD {X : Type} {M : Mu X} {x : X} {ρ : En} {ta : TA} {α : Type} {enc : α → List PD} {pre : α → Prop} {out : α → PD} {E : XK} {T : PD → Prop} (h : EmA M x ρ ta (fun _ ds => ∃ a, ds = enc a ∧ pre a)) (hT : ∀ a, pre a → noL (out a) = true ∧ T (out a)) : Em M x ρ (tCall (spD enc pre out) [] E ta) (fun _ e => T e) := fun σ H Q f q =>
  h σ H _ f fun vs H1 y ds g iv hd ht => by
    obtain ⟨a, rfl, hp⟩ := ht
    obtain ⟨n, t⟩ := hT a hp
    refine ⟨a, by rw [List.append_nil]; exact hd.mono (erL_le _ _), hp, fun v H2 e hv => ?_⟩
    have iv2 := M.st y _ _ e iv
    exact q v H2 y _ (g.trans (erL_same e)) iv2 (hv.imm (Mu.imm iv2) n) t
theorem heap_fewN {l : List Int} {n : Nat} (h : ∀ n ∈ l, 1 ≤ n ∧ n ≤ 1000) (hl : l.length ≤ n) : Few (heapP (PySem.W.sortI l)) n := by
  have pm := PySem.W.sortI_perm l
  have hi := heap_hi _ (PySem.W.sortI l) rfl (PySem.W.sortI_rises l)
  refine ⟨hi.grow, fun x hx => ?_, by rw [hi.tot, pm.length_eq]; omega⟩
  obtain ⟨h1, h2⟩ := hi.at_ x hx
  have := h _ (pm.mem_iff.mp h1)
  omega
abbrev cz : Str := "cdefgh"
abbrev cnames : List Str := cz.cps.toList.map fun c => (⟨#[c]⟩ : Str)
theorem cz_signs : signs cz = cnames.map V.str := by
  unfold signs cnames
  rw [List.map_map]
  rfl
theorem cz_lay : ∀ x ∈ cnames, PyData.canLay0 (.str x) = true := by decide +kernel
theorem coins_mem {p : Pile} {n : Nat} (h : Few p n) : ∀ c ∈ coinsP p, 1 ≤ c ∧ c ≤ 1000 := fun c hc => by
  unfold coinsP at hc
  obtain ⟨x, hx, hr⟩ := List.mem_flatMap.mp hc
  have := List.eq_of_mem_replicate hr
  have q := h.at_ x hx
  omega
theorem few_pay {p : Pile} {i : Int} (h : Few p 24) (h1 : 1 ≤ i) (h2 : i ≤ 5) : PPay p i := by
  obtain ⟨a1, a2, a3⟩ := h.cnt
  exact ⟨h.pb (by decide), h.grow, by omega, fun x hx => by have := a2 x hx; omega, h1, h2⟩
section
variable {K : PySem.W.Frag} {a : Addr} {ns : List Int} {S : Scr K a ns} {d : Addr} {hd : d ∉ S.ad} {ρ : En} {u : TS}
theorem MuSD.dg : ∀ x H, (MuSD S d hd).inv x H → Dg d H ∧ ∀ m : Int, 0 ≤ m → (MuSD S d hd).inv x (upd H d (.lst [.int m])) := fun _ H iv =>
  ⟨iv.1, fun m hm => ⟨⟨m, hm, upd_same⟩, S.ag H _ (fun b hb => upd_ne fun z => hd (z ▸ hb)) iv.2⟩⟩
/-- another thing writes d and what is new: the rest, and the script, stand -/
theorem msd_gone {H H' : Hp} (iv : S.inv H) (g : ∀ b o, b ≠ d → H b = some o → H' b = some o) (hdg : Dg d H') : Gone (MuSD S d hd) H H' ∧ (MuSD S d hd).inv () H' := by
  refine ⟨fun b o e => ?_, hdg, S.ag H H' (fun b hb => ?_) iv⟩
  · obtain ⟨e1, e2⟩ := erL_get e
    exact erL_mk e1 (g b o (fun z => e1 (z ▸ List.mem_cons_self ..)) e2)
  · obtain ⟨o, xs, h⟩ := S.fz H iv b hb
    rw [h]
    exact g b _ (fun z => hd (z ▸ hb)) h
theorem em_right : Em (MuSD S d hd) () ρ (tCall (spRt 3) [] E0 (tCons (tVar 2) (tCons (tC (.int 3)) (tCons (tCB (fun xs H Q => ∃ z : Str, xs = [.str z] ∧ z.cps.all (· < 128) = true ∧ z.cps.size ≤ sizeLine ∧ ∀ p, H p = none → Q (.ref p) (upd H p (.lst (signs z)))) (tCons (tC (.str cz)) tNil)) (tCons (tC (.int 5)) tNil))))) (fun _ e => ∃ r, e = encR r ∧ Sh 3 r) := fun σ H Q f q => by
  refine ⟨.ref d, f.vr (2, d) (by simp [MuSD]), cz, rfl, by decide +kernel, by decide +kernel, fun p hp => ?_⟩
  obtain ⟨⟨n, n0, hn⟩, iv⟩ := f.iv
  have hdp : d ≠ p := fun e => by
    rw [← e, hn] at hp
    cases hp
  have e1 : Same H (upd H p (.lst (signs cz))) := Same.new hp
  refine ⟨d, p, hdp, cnames, rfl, ⟨⟨n, n0, e1 _ _ hn⟩, by rw [cz_signs]; exact upd_same, cz_lay⟩, fun v H' ys r g iv' hv sh => ?_⟩
  obtain ⟨g2, iv2⟩ := msd_gone (hd := hd) (H' := H') iv (fun b o hb e => (erL_get (g b o (erL_mk (by
    simp only [MuDS, List.mem_cons, List.not_mem_nil, or_false]
    rintro (z | z)
    · exact hb z
    · rw [z, hp] at e
      cases e) (e1 _ _ e)))).2) iv'.1
  exact q v H' () (encR r) g2 iv2 ((hv.mono (erL_le _ _)).imm (Mu.imm (M := MuSD S d hd) iv2) (encR_noL r)) ⟨r, rfl, sh⟩
theorem em_till {r : Rt Str} (h3 : ρ[3]? = some (some (encR r))) (sh : Sh 3 r) : Em (MuSD S d hd) () ρ (tCall spTill [] E0 (tCons (tVar 2) (tCons (tVar 3) tNil))) (fun _ e => ∃ p, e = encP p ∧ Few p 1000) := fun σ H Q f q => by
  obtain ⟨v, g1, g2⟩ := f.sg.at_ 3 _ h3
  obtain ⟨dg, iv⟩ := f.iv
  refine ⟨.ref d, f.vr (2, d) (by simp [MuSD]), v, g1, d, r, v, rfl, g2.mono (erL_sub fun b hb => by rw [List.mem_singleton.mp hb]; exact List.mem_cons_self ..), sh, dg, fun v' H' p g dg' hv fw => ?_⟩
  obtain ⟨g3, iv2⟩ := msd_gone (hd := hd) (H' := H') iv (fun b o hb e => (erL_get (g b o (erL_mk (fun z => hb (List.mem_singleton.mp z)) e))).2) dg'
  exact q v' H' () (encP p) g3 iv2 ((hv.mono (erL_le _ _)).imm (Mu.imm (M := MuSD S d hd) iv2) (noL_encP p)) ⟨p, rfl, fw⟩
theorem emi_names {r : Rt Str} (h3 : ρ[3]? = some (some (encR r))) (hl : (namesR r).length ≤ 1000000) (hdp : dep r ≤ 4) : EmI (MuSD S d hd) () ρ (iList K (tCall (spNames 4) [] E0 (tCons (tVar 3) tNil))) ((namesR r).map .str) := fun σ H R f q =>
  ed_call r (ea_cons (ed_var h3) ea_nil) ⟨hl, hdp⟩ σ H _ (f.sg.mono (erL_le _ _)) fun v H' e hv => by
    have iv2 := (MuSD S d hd).st () _ _ e f.iv
    obtain ⟨b, xs, rfl, g1, g2⟩ := hv.of_lst
    have hb : b ∉ (MuSD S d hd).ad := fun hm => by
      rcases List.mem_cons.mp hm with rfl | hm
      · obtain ⟨⟨n, n0, hn⟩, _⟩ := iv2
        rw [hn] at g1
        cases g1
        have hz : [V.int n] = (namesR r).map V.str := g2.strs
        cases hr : namesR r with
        | nil =>
          rw [hr] at hz
          cases hz
        | cons y l' =>
          rw [hr] at hz
          cases hz
      · obtain ⟨o, ys, h⟩ := S.fz H' iv2.2 b hm
        rw [h] at g1
        cases g1
    have nn : ∀ l : List Str, noLAll (l.map .str) = true := fun l => by
      induction l with
      | nil => rfl
      | cons x l ih =>
        rw [List.map_cons]
        simp only [noLAll, ih, Bool.and_true]
        rfl
    exact ⟨b, rfl, ⟨xs, SqL.of g1⟩, q _ H' (erL_same e) iv2 (wk_list (erL_mk hb g1) (g2.imm (Mu.imm iv2) (nn _)))⟩
theorem eob_digits {k : Int} (h1 : ρ[1]? = some (some (.int k))) (k1 : 0 ≤ k) (k2 : k ≤ 100) (hl : ns.length ≤ 63) (h2 : ρ[2]? = some none) (hu : ∀ d (hd : d ∉ S.ad), Eob (MuSD S d hd) () ρ u (fun _ ρ' => ρ'.length = 10) (fun _ e => e = .bool true)) :
    Eob (MuS S) () ρ (tSeq (tAsg (tLst (tCons (tCall (spCell K) [] E0 (tCons (tVar 0) (tCons (tVar 1) tNil))) tNil)) (gName 2)) u) (fun _ ρ' => ρ'.length = 10) (fun _ e => e = .bool true) := fun D σ H f q r => by
  obtain ⟨v, g1, g2⟩ := f.sg.at_ 1 _ h1
  cases g2
  refine ⟨.ref a, f.vr (0, a) (List.mem_singleton.mpr rfl), .int k, g1, a, ns, S, k, rfl, f.iv, hl, k1, k2, fun n H' g iv hn => ⟨by show 1 ≤ sizeLine; decide, fun p hp => ?_⟩⟩
  have hpS : p ∉ S.ad := fun hm => by
    obtain ⟨o, xs, h⟩ := S.fz H' iv p hm
    rw [hp] at h
    cases h
  have e1 : Same H' (upd H' p (.lst [.int n])) := Same.new hp
  have hlen : 2 < σ.length := by
    rw [f.sg.len]
    exact (List.getElem?_eq_some_iff.mp h2).1
  have ge : Same (erL S.ad H') (erL (p :: S.ad) (upd H' p (.lst [.int n]))) := fun b o hb => by
    obtain ⟨b1, b2⟩ := erL_get hb
    refine erL_mk (fun z => ?_) (e1 _ _ b2)
    rcases List.mem_cons.mp z with rfl | z
    · rw [hp] at b2
      cases b2
    · exact b1 z
  have back : ∀ H2, Same (erL (p :: S.ad) H2) (erL S.ad H2) := fun H2 => erL_sub fun b hb => List.mem_cons_of_mem _ hb
  refine hu p hpS D (σ.set 2 (some (.ref p))) (upd H' p (.lst [.int n])) ⟨?_, fun x hx => ?_, ⟨n, hn, upd_same⟩, S.ag H' _ (fun b hb => upd_ne fun z => hpS (z ▸ hb)) iv⟩ (fun σ' H2 y ρ' g2 f2 n2 => q σ' H2 () ρ' ?_ ⟨f2.sg.mono (back H2), fun x hx => f2.vr x (by rw [show x = (0, a) from List.mem_singleton.mp hx]; simp [MuSD]), f2.iv.2⟩ n2) fun v H2 y e g2 iv2 hv ht => r v H2 () e ?_ iv2.2 (hv.mono (back H2)) ht
  · refine ⟨by rw [List.length_set]; exact f.sg.len, fun j e hj => ?_⟩
    by_cases hj2 : 2 = j
    · subst hj2
      rw [h2] at hj
      cases hj
    · obtain ⟨v, q1, q2⟩ := f.sg.at_ j e hj
      exact ⟨v, by rw [List.getElem?_set_ne hj2]; exact q1, (q2.mono g).mono ge⟩
  · have : x = (2, p) ∨ x = (0, a) := by simpa [MuSD] using hx
    rcases this with rfl | rfl
    · exact List.getElem?_set_self hlen
    · rw [List.getElem?_set_ne (show 2 ≠ 0 by decide)]
      exact f.vr (0, a) (List.mem_singleton.mpr rfl)
  · exact g.trans (ge.trans (Same.trans g2 (back H2)))
  · exact g.trans (ge.trans (Same.trans g2 (back H2)))
end
section
variable {P : Program} {w : World} {K : PySem.W.Frag} {mg : Str → Option Value} {base : Heap}
def spLaw (K : PySem.W.Frag) : Sp := fun vs H Q _ => ∃ (a : Addr) (ns : List Int), vs = [.ref a] ∧ SqL K H a (ns.map V.int) ∧ Only H ∧ ns.length ≤ 63 ∧ ∀ H', Q (.bl true) H'
abbrev great : Pile := [(1, 300), (2, 1)]
theorem pq_great {q : Pile} (h : q = [(1, 2)] ∨ q = [(2, 1)]) : PQ1 (great, q) := by
  rcases h with rfl | rfl
  · exact ⟨⟨⟨by decide, by decide⟩, by unfold Grow; decide, by decide, ⟨by unfold Grow; decide, by decide, fun x hx => ⟨300, by rw [List.mem_singleton.mp hx]; decide, by rw [List.mem_singleton.mp hx]; decide, by rw [List.mem_singleton.mp hx]; decide⟩⟩⟩, by decide⟩
  · exact ⟨⟨⟨by decide, by decide⟩, by unfold Grow; decide, by decide, ⟨by unfold Grow; decide, by decide, fun x hx => ⟨1, by rw [List.mem_singleton.mp hx]; decide, by rw [List.mem_singleton.mp hx]; decide, by rw [List.mem_singleton.mp hx]; decide⟩⟩⟩, by decide⟩
theorem lawList {ρ : En} : Ed ρ (tLst (tCons (tTupF (tCons (tTupF (tCons (tTupF (tCons (tC (.int 1)) (tCons (tC (.int 2)) tNil))) tNil)) (tCons (tTupF (tCons (tTupF (tCons (tC (.int 1)) (tCons (tC (.int 298)) tNil))) (tCons (tTupF (tCons (tC (.int 2)) (tCons (tC (.int 1)) tNil))) tNil))) tNil)))
    (tCons (tTupF (tCons (tTupF (tCons (tTupF (tCons (tC (.int 2)) (tCons (tC (.int 1)) tNil))) tNil)) (tCons (tTupF (tCons (tTupF (tCons (tC (.int 1)) (tCons (tC (.int 300)) tNil))) tNil)) tNil))) tNil))) (.list [.tuple [.tuple [.tuple [.int 1, .int 2]], .tuple [.tuple [.int 1, .int 298], .tuple [.int 2, .int 1]]], .tuple [.tuple [.tuple [.int 2, .int 1]], .tuple [.tuple [.int 1, .int 300]]]]) := by
  have two : ∀ {i j : Int}, Ed ρ (tTupF (tCons (tC (.int i)) (tCons (tC (.int j)) tNil))) (.tuple [.int i, .int j]) := ed_tup (ea_cons ed_int (ea_cons ed_int ea_nil)) (Nat.le_of_ble_eq_true rfl)
  have one : ∀ {t : TE} {d : PD}, Ed ρ t d → Ed ρ (tTupF (tCons t tNil)) (.tuple [d]) := fun h => ed_tup (ea_cons h ea_nil) (Nat.le_of_ble_eq_true rfl)
  have duo : ∀ {t u : TE} {d e : PD}, Ed ρ t d → Ed ρ u e → Ed ρ (tTupF (tCons t (tCons u tNil))) (.tuple [d, e]) := fun h k => ed_tup (ea_cons h (ea_cons k ea_nil)) (Nat.le_of_ble_eq_true rfl)
  exact ed_lst (ea_cons (duo (one two) (duo two two)) (ea_cons (duo (one two) (one two)) ea_nil)) (Nat.le_of_ble_eq_true rfl)
abbrev s_law : Stmt := topS 47
abbrev n_law : List Str := ["_law_script", "_law_turn", "_law_digits", "_law_right_here", "_law_pile", "_law_name", "_law_k", "_law_great", "_law_paying", "_law_left_here"]
theorem sc_law : FnScope n_law ["_law_script"] (defScope s_law) := ⟨rfl, rfl, rfl, by decide +kernel, rfl, by decide +kernel, by decide +kernel⟩
theorem ok_law (D : Dfn K mg "law" s_law ["_law_script"]) (Z : Bi mg) (C_law_cell : Cal P w K mg base "_law_cell" 2 (spCell K)) (C_law_right : Cal P w K mg base "_law_right" 5 (spRt 3)) (C_law_till : Cal P w K mg base "_law_till" 6 spTill) (C_law_coins : Cal P w K mg base "_law_coins" 1 spCoins) (C_law_heap : Cal P w K mg base "_law_heap" 1 spHeap)
    (C_law_names : Cal P w K mg base "_law_names" 4 (spNames 4)) (C_law_good : Cal P w K mg base "_law_good" 8 spGood) (C_law_take : Cal P w K mg base "_law_take" 1 spTk) (Cis_safe : Cal P w K mg base "is_safe" 6 spSafe) (C_law_told_good : Cal P w K mg base "_law_told_good" 7 spTG) {f : Addr} {fd : FuncData} (F : Fun K "law" "law" s_law f fd) : FnOk P w K mg base CX0 9 f fd ["_law_script"] (spLaw K) := by
  refine F.ok sc_law (fun vs H Q E h => ?_) (fun cdv A outer s0 H vs Q E hr h => ?_)
  · obtain ⟨a, ns, rfl, _⟩ := h
    rfl
  obtain ⟨a, ns, rfl, hsq, hon, hl, h5⟩ := h
  obtain ⟨S, hiv⟩ := scr_of hsq hon
  refine ⟨_, (pss_cons (ps_for PassesOwn.never rfl (pi_range1 rfl Z.range (pa_cons (pe_callB (call_max2 rfl) rfl Z.max bt_max (pa_cons (pe_callB (call_min2 rfl) rfl Z.min bt_min (pa_cons (pe_callB call_len_seq rfl Z.len bt_len (pa_cons (pv 0) pa_nil)) (pa_cons pe_int pa_nil))) (pa_cons pe_int pa_nil))) pa_nil)) (pg_name (i := 1) sc_law.nd rfl (Or.inl rfl))
      (pss_cons (ps_set (i := 2) sc_law.nd rfl (Or.inl rfl) (pe_lst (pa_cons (pe_cal C_law_cell (hr.mono (by omega)) rfl (pa_cons (pv 0) (pa_cons (pv 1) pa_nil))) pa_nil)))
    (pss_cons (ps_set (i := 3) sc_law.nd rfl (Or.inl rfl) (pe_cal C_law_right (hr.mono (by omega)) rfl (pa_cons (pv 2) (pa_cons pe_int (pa_cons (pe_callTy (call_listT rfl) rfl Z.list bt_list (pa_cons pe_str pa_nil)) (pa_cons pe_int pa_nil))))))
    (pss_cons (ps_set (i := 4) sc_law.nd rfl (Or.inl rfl) (pe_cal C_law_till (hr.mono (by omega)) rfl (pa_cons (pv 2) (pa_cons (pv 3) pa_nil))))
    (pss_cons (ps_if (pt_cmpR op_gt (pe_callB call_len_seq rfl Z.len bt_len (pa_cons (pe_cal C_law_coins (hr.mono (by omega)) rfl (pa_cons (pv 4) pa_nil)) pa_nil)) pe_int (nomark _)) (pss_one (ps_set (i := 4) sc_law.nd rfl (Or.inl rfl) (pe_cal C_law_heap (hr.mono (by omega)) rfl (pa_cons (pe_slice sl_list (pe_cal C_law_coins (hr.mono (by omega)) rfl (pa_cons (pv 4) pa_nil)) po_none (po_some pe_int)) pa_nil)))) pss_nil)
    (pss_one (ps_for PassesOwn.never rfl (pi_list (pe_cal C_law_names (hr.mono (by omega)) rfl (pa_cons (pv 3) pa_nil))) (pg_name (i := 5) sc_law.nd rfl (Or.inl rfl))
      (pss_one (ps_for PassesOwn.never rfl (pi_range1 rfl Z.range (pa_cons pe_int pa_nil)) (pg_name (i := 6) sc_law.nd rfl (Or.inl rfl))
      (pss_one (ps_if (pt_not (pt_val (pe_cal C_law_good (hr.mono (by omega)) rfl (pa_cons (pv 4) (pa_cons (pv 3) (pa_cons (pv 5) (pa_cons (pe_op op_add pe_int (pe_cal C_law_take (hr.mono (by omega)) rfl (pa_cons (pv 2) (pa_cons pe_int pa_nil)))) pa_nil))))))) (pss_one (ps_ret pe_bl)) pss_nil)))))))))))
    (pss_cons (ps_set (i := 7) sc_law.nd rfl (Or.inl rfl) (pe_tupF (pa_cons (pe_tupF (pa_cons pe_int (pa_cons pe_int pa_nil))) (pa_cons (pe_tupF (pa_cons pe_int (pa_cons pe_int pa_nil))) pa_nil))))
    (pss_cons (ps_for PassesOwn.never rfl (pi_list (pe_lst (pa_cons (pe_tupF (pa_cons (pe_tupF (pa_cons (pe_tupF (pa_cons pe_int (pa_cons pe_int pa_nil))) pa_nil)) (pa_cons (pe_tupF (pa_cons (pe_tupF (pa_cons pe_int (pa_cons pe_int pa_nil))) (pa_cons (pe_tupF (pa_cons pe_int (pa_cons pe_int pa_nil))) pa_nil))) pa_nil))) (pa_cons (pe_tupF (pa_cons (pe_tupF (pa_cons (pe_tupF (pa_cons pe_int (pa_cons pe_int pa_nil))) pa_nil)) (pa_cons (pe_tupF (pa_cons (pe_tupF (pa_cons pe_int (pa_cons pe_int pa_nil))) pa_nil)) pa_nil))) pa_nil)))) (pg_tup rfl (pgs_cons (pg_name (i := 8) sc_law.nd rfl (Or.inl rfl)) (pgs_cons (pg_name (i := 9) sc_law.nd rfl (Or.inl rfl)) pgs_nil)))
      (pss_one (ps_if (PW.pt (pw_or (pt_cmpR op_ne (pe_cal Cis_safe (hr.mono (by omega)) rfl (pa_cons (pv 7) (pa_cons (pv 8) pa_nil))) (pe_cmpR (op_eqD hr.units) (pv 8) (pe_tupF (pa_cons (pe_tupF (pa_cons pe_int (pa_cons pe_int pa_nil))) pa_nil)) (nomark _)) (nomark _)) (pw_or1 (pt_not (pt_val (pe_cal C_law_told_good (hr.mono (by omega)) rfl (pa_cons (pv 7) (pa_cons (pv 8) (pa_cons (pv 9) pa_nil))))))))) (pss_one (ps_ret pe_bl)) pss_nil)))
    (pss_one (ps_ret (pe_cal C_law_good (hr.mono (by omega)) rfl (pa_cons (pe_tupF (pa_cons (pe_tupF (pa_cons pe_int (pa_cons pe_int pa_nil))) (pa_cons (pe_tupF (pa_cons pe_int (pa_cons pe_int pa_nil))) pa_nil))) (pa_cons (pe_tupF (pa_cons pe_str (pa_cons pe_str (pa_cons pe_int (pa_cons pe_int pa_nil))))) (pa_cons pe_str (pa_cons pe_int pa_nil)))))))))), ?_⟩
  suffices hh : Eob (MuS S) () [none, none, none, none, none, none, none, none, none, none] _ (fun _ _ => False) (fun _ c => c = .bool true) by
    refine hh _ _ H ⟨⟨rfl, fun i e h => ?_⟩, fun p hp => ?_, hiv⟩ (fun σ' H' y ρ' g f' n => n.elim) fun v H' y e g iv hd ht => ?_
    · rcases i with _ | _ | _ | _ | _ | _ | _ | _ | _ | _ | i <;> simp at h
    · rw [show p = (0, a) from List.mem_singleton.mp hp]
      rfl
    · subst ht
      cases hd
      exact h5 H'
  have nix : ∀ (S : Scr K a ns), ∀ j, 1 ≤ j → ∀ p ∈ (MuS S).ix, j ≠ p.1 := fun S j hj p hp => by
    rw [show p = (0, a) from List.mem_singleton.mp hp]
    show j ≠ 0
    omega
  let m0 : Int := if (4 : Int) < ((ns.map V.int).length : Nat) then (4 : Int) else ((ns.map V.int).length : Nat)
  have m4 : m0 ≤ 4 := by
    show (if (4 : Int) < ((ns.map V.int).length : Nat) then (4 : Int) else ((ns.map V.int).length : Nat)) ≤ 4
    split <;> omega
  have m0' : 0 ≤ m0 := by
    show 0 ≤ (if (4 : Int) < ((ns.map V.int).length : Nat) then (4 : Int) else ((ns.map V.int).length : Nat))
    split <;> omega
  let n : Int := if 1 > m0 then 1 else m0
  have n4 : 0 ≤ n ∧ n ≤ 4 := by
    show 0 ≤ (if 1 > m0 then 1 else m0) ∧ (if 1 > m0 then 1 else m0) ≤ 4
    split <;> omega
  refine eob_seq (eob_for (ds := upTo n) (fun _ _ ρ1 => ρ1 = [none, none, none, none, none, none, none, none, none, none]) ?_ rfl ?_) ?_
  · intro σ H R f q
    refine ⟨.ref a, f.vr (0, a) (List.mem_singleton.mpr rfl), a, ns.map V.int, rfl, .inl (S.sq H f.iv), ((ns.map V.int).length : Nat), 4, rfl, m0, 1, rfl, n, rfl, by omega, by omega, ?_⟩
    refine q _ H (Same.refl _) f.iv ⟨fun i H2 e hi => ?_, fun H2 e => ?_, fun i H2 x H3 e hi y => ?_⟩
    · rw [upTo_len] at hi
      exact hi
    · show n.toNat ≤ (upTo n).length
      rw [upTo_len]
      exact Nat.le_refl _
    · rw [upTo_len] at hi
      obtain ⟨rfl, rfl⟩ := y
      refine ⟨Same.refl _, _, upTo_get hi, ?_⟩
      rw [Int.zero_add]
      exact .int _
  · rintro i e y ρ1 he rfl
    have hi : i < n.toNat := by
      have := (List.getElem?_eq_some_iff.mp he).1
      rw [upTo_len] at this
      exact this
    rw [upTo_get hi] at he
    cases he
    refine ⟨_, _, eg_name, fun p hp => ?_, noJ0.set (js' := [1]) rfl (by simp), ?_⟩
    · rw [show p = (0, a) from List.mem_singleton.mp hp]
      show (0 : Nat) ∉ [1]
      decide
    refine eob_forget ?_
    show Eob (MuS S) () [none, some (.int (i : Int)), none, none, none, none, none, none, none, none] _ _ _
    refine eob_digits (k := (i : Int)) rfl (by omega) (by omega) hl rfl fun d hd => ?_
    have nix2 : ∀ j, 3 ≤ j → ∀ p ∈ (MuSD S d hd).ix, j ≠ p.1 := fun j hj p hp => by
      have : p = (2, d) ∨ p = (0, a) := by simpa [MuSD] using hp
      rcases this with rfl | rfl <;> (simp only; omega)
    refine eob_seq (eob_set (N := fun _ ρ' => ∃ r, Sh 3 r ∧ ρ' = [none, some (.int (i : Int)), none, some (encR r), none, none, none, none, none, none]) em_right (nix2 3 (by decide)) ?_) ?_
    · rintro y e ⟨r, rfl, sh⟩
      exact ⟨r, sh, rfl⟩
    rintro y ρ' ⟨r, sh, rfl⟩
    obtain ⟨hr1, hr2⟩ := sh.rb
    refine eob_seq (eob_set (N := fun _ ρ' => ∃ p, Few p 1000 ∧ ρ' = [none, some (.int (i : Int)), none, some (encR r), some (encP p), none, none, none, none, none]) (em_till rfl sh) (nix2 4 (by decide)) ?_) ?_
    · rintro y e ⟨p, rfl, fw⟩
      exact ⟨p, fw, rfl⟩
    rintro y ρ' ⟨p, fw, rfl⟩
    have pb := fw.pb (Nat.le_refl _)
    have cl := coins_len fun x hx => (fw.at_ x hx).2.2
    refine eob_seq (eob_if (N := fun _ ρ' => ∃ p, Few p 24 ∧ ρ' = [none, some (.int (i : Int)), none, some (encR r), some (encP p), none, none, none, none, none]) (EmT.pure (et_test (ed_gt (Ed.is (ed_lenL (ed_call p (ea_cons (ed_var rfl) ea_nil) ⟨pb, fw.tot⟩)) (by rw [List.length_map])) ed_int))) ?_ ?_) ?_
    · rintro y ⟨_, hb⟩
      have hlt := of_decide_eq_true hb.symm
      have h24 : 24 ≤ (coinsP p).length := by omega
      refine eob_set (Em.pure (d := encP (heapP (PySem.W.sortI ((coinsP p).take 24)))) (ed_call ((coinsP p).take 24) (ea_cons (Ed.is (ed_slL (lo := none) (hi := some ((24 : Nat) : Int)) (ed_call p (ea_cons (ed_var rfl) ea_nil) ⟨pb, fw.tot⟩) eo_no (eo_at ed_int)) ?_) ea_nil) (by rw [List.length_take]; omega)) (noL_encP _)) (nix2 4 (by decide)) fun y e h => ⟨heapP (PySem.W.sortI ((coinsP p).take 24)), heap_fewN (n := 24) (l := (coinsP p).take 24) (fun c hc => coins_mem fw c (List.mem_of_mem_take hc)) (by rw [List.length_take]; omega), by rw [h.2]; rfl⟩
      rw [cutD_pre _ 24 (by rw [List.length_map]; exact h24), List.map_take]
    · rintro y ⟨_, hb⟩
      have hge := of_decide_eq_false hb.symm
      exact eob_next ⟨p, ⟨fw.grow, fw.at_, by omega⟩, rfl⟩
    clear fw pb cl
    rintro y ρ' ⟨p, fw, rfl⟩
    have hnm : (namesR r).length ≤ 1000000 := Nat.le_trans sh.names (by decide)
    refine Eob.imp (eob_for (ds := (namesR r).map .str) (fun _ _ ρ1 => ∃ e5 e6, ρ1 = [none, some (.int (i : Int)), none, some (encR r), some (encP p), e5, e6, none, none, none]) (emi_names rfl hnm hr2) ⟨none, none, rfl⟩ ?_) ?_
    · rintro j e y ρ1 he ⟨e5, e6, rfl⟩
      rw [List.getElem?_map] at he
      cases hn : (namesR r)[j]? with
      | none => rw [hn] at he; cases he
      | some nm =>
        rw [hn] at he
        cases he
        refine ⟨_, _, eg_name, fun p hp => ?_, noJ0.set (js' := [5]) rfl (by simp), ?_⟩
        · exact fun z => nix2 5 (by decide) p hp (List.mem_singleton.mp z).symm
        show Eob (MuSD S d hd) y [none, some (.int (i : Int)), none, some (encR r), some (encP p), some (.str nm), e6, none, none, none] _ _ _
        refine Eob.imp (eob_for (ds := upTo 2) (fun _ _ ρ1 => ∃ e6, ρ1 = [none, some (.int (i : Int)), none, some (encR r), some (encP p), some (.str nm), e6, none, none, none]) (emi_range ed_int (by decide) (by decide)) ⟨e6, rfl⟩ ?_) ?_
        · rintro l e y ρ1 he ⟨e6, rfl⟩
          have hl2 : l < (2 : Int).toNat := by
            have := (List.getElem?_eq_some_iff.mp he).1
            rw [upTo_len] at this
            exact this
          rw [upTo_get hl2] at he
          cases he
          refine ⟨_, _, eg_name, fun p hp => ?_, noJ0.set (js' := [6]) rfl (by simp), ?_⟩
          · exact fun z => nix2 6 (by decide) p hp (List.mem_singleton.mp z).symm
          show Eob (MuSD S d hd) y [none, some (.int (i : Int)), none, some (encR r), some (encP p), some (.str nm), some (.int (l : Int)), none, none, none] _ _ _
          refine eob_if (emt_not (em_callD (T := fun e => e = .bool true) (EmA.imp (ema_cons1 (T := fun e => e = encP p) (Em.imp (Em.pure (ed_var rfl) (noL_encP p)) fun _ _ h => h.2) fun y => ema_cons1 (T := fun e => e = encR r) (Em.imp (Em.pure (ed_var rfl) (encR_noL r)) fun _ _ h => h.2) fun y => ema_cons1 (T := fun e => e = .str nm) (Em.imp (Em.pure (ed_var rfl) rfl) fun _ _ h => h.2) fun y => ema_cons1 (em_add1 (S := fun i => 1 ≤ i ∧ i ≤ 5) (S1 := fun i => i = 1) (S2 := fun i => 0 ≤ i ∧ i < 5) (emi1 ed_int rfl) (fun y => em_take1 (d := d) (by simp [MuSD]) (by simp [MuSD]) MuSD.dg ed_int (by decide) (by decide)) fun a b h1 h2 => by omega) fun y => ema_nil1) ?_) fun a _ => ⟨rfl, rfl⟩)) ?_ ?_
          · rintro y ds ⟨_, _, rfl, ⟨_, _, rfl, ⟨_, _, rfl, ⟨_, _, ⟨b, rfl, b1, b2⟩, rfl, rfl⟩, rfl⟩, rfl⟩, rfl⟩
            exact ⟨(p, r, nm, b), rfl, ⟨few_pay fw b1 b2, by have := fw.cnt.2.2; show sumOf p ≤ 1000000; omega, hr1, hr2⟩⟩
          · exact fun y h => nomatch h
          · exact fun y h => eob_next ⟨_, rfl⟩
        · rintro y ρ' ⟨e6, rfl⟩
          exact ⟨_, _, rfl⟩
    · rintro y ρ' ⟨e5, e6, rfl⟩
      rfl
  · rintro y ρ' rfl
    refine eob_pure ?_ rfl
    have g1 := pq_great (q := [(1, 2)]) (.inl rfl)
    have g2 := pq_great (q := [(2, 1)]) (.inr rfl)
    have u1 : (unsA (great, [(1, 2)])).isEmpty = false := by decide +kernel
    have u2 : (unsA (great, [(2, 1)])).isEmpty = true := by decide +kernel
    have t1 : takeL great [(1, 2)] = [(1, 298), (2, 1)] := by decide +kernel
    have t2 : takeL great [(2, 1)] = [(1, 300)] := by decide +kernel
    refine eo_seq (eo_set (d := encP great) (ed_tup (ea_cons (ed_tup (ea_cons ed_int (ea_cons ed_int ea_nil)) (Nat.le_of_ble_eq_true rfl)) (ea_cons (ed_tup (ea_cons ed_int (ea_cons ed_int ea_nil)) (Nat.le_of_ble_eq_true rfl)) ea_nil)) (Nat.le_of_ble_eq_true rfl))) ?_
    show Eo [none, none, none, none, none, none, none, some (encP great), none, none] _ _
    have turn : ∀ {q : Pile} {b : Bool} (hq : PQ1 (great, q)) (hu : (unsA (great, q)).isEmpty = b) (he : PyData.eqv (encP q) (.tuple [.tuple [.int 2, .int 1]]) = b),
        Et [none, none, none, none, none, none, none, some (encP great), some (encP q), some (encP (takeL great q))] (tOr (tTest (tOp rNe (tCall spSafe [] E0 (tCons (tVar 7) (tCons (tVar 8) tNil))) (tOp (rEqD K) (tVar 8) (tTupF (tCons (tTupF (tCons (tC (.int 2)) (tCons (tC (.int 1)) tNil))) tNil))))) (tNot (tTest (tCall spTG [] E0 (tCons (tVar 7) (tCons (tVar 8) (tCons (tVar 9) tNil))))))) false := fun {q b} hq hu he => by
      refine Et.is (et_or (a := false) (b := false) (et_test (Ed.is (ed_neB (i := b) (j := b) (Ed.is (ed_call (great, q) (ea_cons (ed_var rfl) (ea_cons (ed_var rfl) ea_nil)) hq) (congrArg PyData.bool hu)) (Ed.is (ed_eqD (ed_var rfl) (ed_tup (ea_cons (ed_tup (ea_cons ed_int (ea_cons ed_int ea_nil)) (Nat.le_of_ble_eq_true rfl)) ea_nil) (Nat.le_of_ble_eq_true rfl)) (shaped_encP q) rfl (noD_encP q) rfl) (congrArg PyData.bool he))) ?_)) fun _ => et_not (a := true) (et_test (ed_call (great, q) (ea_cons (ed_var rfl) (ea_cons (ed_var rfl) (ea_cons (ed_var rfl) ea_nil))) ⟨hq, by show sumOf great ≤ 1000000; decide⟩))) rfl
      cases b <;> rfl
    have dl : Ed [none, none, none, none, none, none, none, some (encP great), none, none] _ (.list [.tuple [.tuple [.tuple [.int 1, .int 2]], .tuple [.tuple [.int 1, .int 298], .tuple [.int 2, .int 1]]], .tuple [.tuple [.tuple [.int 2, .int 1]], .tuple [.tuple [.int 1, .int 300]]]]) := lawList
    refine eo_seq (eo_for (fun _ => [none, none, none, none, none, none, none, some (encP great), none, none]) (ei_list dl) (Le.refl _) ?_) (eo_ret (ed_call (([(1, 4), (2, 1)] : Pile), (Rt.call ("c" : Str) 2 1 : Rt Str), ("c" : Str), (2 : Int)) (ea_cons ?_ (ea_cons ?_ (ea_cons ed_str (ea_cons ed_int ea_nil)))) ?_))
    · intro i e he
      rcases i with _ | _ | i
      · cases he
        refine ⟨_, _, eg_tup (egs_cons eg_name (egs_cons eg_name egs_nil)) rfl, Eo.less (eo_ifF ?_ eo_next) (le_of ⟨rfl, trivial⟩)⟩
        have := turn (b := false) g1 u1 rfl
        rw [t1] at this
        exact this
      · cases he
        refine ⟨_, _, eg_tup (egs_cons eg_name (egs_cons eg_name egs_nil)) rfl, Eo.less (eo_ifF ?_ eo_next) (le_of ⟨rfl, trivial⟩)⟩
        have := turn (b := true) g2 u2 rfl
        rw [t2] at this
        exact this
      · cases he
    · exact ed_tup (ea_cons (ed_tup (ea_cons ed_int (ea_cons ed_int ea_nil)) (Nat.le_of_ble_eq_true rfl)) (ea_cons (ed_tup (ea_cons ed_int (ea_cons ed_int ea_nil)) (Nat.le_of_ble_eq_true rfl)) ea_nil)) (Nat.le_of_ble_eq_true rfl)
    · exact ed_tup (ea_cons ed_str (ea_cons ed_str (ea_cons ed_int (ea_cons ed_int ea_nil)))) (Nat.le_of_ble_eq_true rfl)
    · refine ⟨⟨⟨by decide, by decide⟩, by unfold Grow; decide, by decide, by decide, by decide, by decide⟩, by decide, ?_, ?_⟩
      · show rb (Rt.call ("c" : Str) 2 1)
        rw [rb]
        decide
      · show dep (Rt.call ("c" : Str) 2 1) ≤ 4
        rw [dep]
        decide
end
end K27
end
set_option Elab.async false
set_option linter.all false
set_option maxRecDepth 100000
set_option maxHeartbeats 4000000
namespace K27
open PySem PySem.Spec PyProof.Rows L2
theorem dfn_mk {K : PySem.W.Frag} {h : Heap} {mg : Str → Option Value} (X : K.In h) (G : h.Ns mainGlobals mg) {x : Str} {st : Stmt} {ps : List Str} {f : Addr} {oc : Value} {od an : Option Addr} {osl : Array (Option Value)} {kV doc pm cdv ct : Value}
    (a : PySem.W.nsIn K mainGlobals x = some (some (.ref f))) (l : K.lookup f = some ⟨oc, od, .func (PySem.W.fnOf x x (defArgs st) (defBody st) (defScope st) .none kV doc pm an cdv ct), osl⟩) (c : PySem.W.codeIn K cdv x = true) (k : PySem.W.keepIn K (.ref f) = true)
    (hb : ∀ (kV doc pm : Value) (an : Option Addr) (cdv ct : Value) (us : List Value), us.length = ps.length → bindArgs (PySem.W.fnOf x x (defArgs st) (defBody st) (defScope st) .none kV doc pm an cdv ct) ⟨us, []⟩ = pure (ps.zip us)) : Dfn K mg x st ps :=
  ⟨⟨f, _, fun_mk l c k, PySem.W.mg_of X G a, (fun_mk l c k).binds hb⟩⟩
theorem all_mk {l : PySem.W.OpenLaw} {w : World} {K : PySem.W.Frag} {h : Heap} {mg : Str → Option Value} {fa : Addr} (X : K.In h) (G : h.Ns mainGlobals mg) (hfa : mg "law" = some (.ref fa))
    {f0 : Addr} {od0 an0 : Option Addr} {sl0 : Array (Option Value)} {oc0 kV0 dc0 pm0 cd0 ct0 : Value}
    (a0 : PySem.W.nsIn K mainGlobals "is_from" = some (some (.ref f0))) (l0 : K.lookup f0 = some ⟨oc0, od0, .func (PySem.W.fnOf "is_from" "is_from" (defArgs s_is_from) (defBody s_is_from) (defScope s_is_from) .none kV0 dc0 pm0 an0 cd0 ct0), sl0⟩) (c0 : PySem.W.codeIn K cd0 "is_from" = true) (k0 : PySem.W.keepIn K (.ref f0) = true)
    {f1 : Addr} {od1 an1 : Option Addr} {sl1 : Array (Option Value)} {oc1 kV1 dc1 pm1 cd1 ct1 : Value}
    (a1 : PySem.W.nsIn K mainGlobals "is_lot" = some (some (.ref f1))) (l1 : K.lookup f1 = some ⟨oc1, od1, .func (PySem.W.fnOf "is_lot" "is_lot" (defArgs s_is_lot) (defBody s_is_lot) (defScope s_is_lot) .none kV1 dc1 pm1 an1 cd1 ct1), sl1⟩) (c1 : PySem.W.codeIn K cd1 "is_lot" = true) (k1 : PySem.W.keepIn K (.ref f1) = true)
    {f2 : Addr} {od2 an2 : Option Addr} {sl2 : Array (Option Value)} {oc2 kV2 dc2 pm2 cd2 ct2 : Value}
    (a2 : PySem.W.nsIn K mainGlobals "is_pile" = some (some (.ref f2))) (l2 : K.lookup f2 = some ⟨oc2, od2, .func (PySem.W.fnOf "is_pile" "is_pile" (defArgs s_is_pile) (defBody s_is_pile) (defScope s_is_pile) .none kV2 dc2 pm2 an2 cd2 ct2), sl2⟩) (c2 : PySem.W.codeIn K cd2 "is_pile" = true) (k2 : PySem.W.keepIn K (.ref f2) = true)
    {f3 : Addr} {od3 an3 : Option Addr} {sl3 : Array (Option Value)} {oc3 kV3 dc3 pm3 cd3 ct3 : Value}
    (a3 : PySem.W.nsIn K mainGlobals "look_at_pile" = some (some (.ref f3))) (l3 : K.lookup f3 = some ⟨oc3, od3, .func (PySem.W.fnOf "look_at_pile" "look_at_pile" (defArgs s_look_at_pile) (defBody s_look_at_pile) (defScope s_look_at_pile) .none kV3 dc3 pm3 an3 cd3 ct3), sl3⟩) (c3 : PySem.W.codeIn K cd3 "look_at_pile" = true) (k3 : PySem.W.keepIn K (.ref f3) = true)
    {f4 : Addr} {od4 an4 : Option Addr} {sl4 : Array (Option Value)} {oc4 kV4 dc4 pm4 cd4 ct4 : Value}
    (a4 : PySem.W.nsIn K mainGlobals "sum_of" = some (some (.ref f4))) (l4 : K.lookup f4 = some ⟨oc4, od4, .func (PySem.W.fnOf "sum_of" "sum_of" (defArgs s_sum_of) (defBody s_sum_of) (defScope s_sum_of) .none kV4 dc4 pm4 an4 cd4 ct4), sl4⟩) (c4 : PySem.W.codeIn K cd4 "sum_of" = true) (k4 : PySem.W.keepIn K (.ref f4) = true)
    {f5 : Addr} {od5 an5 : Option Addr} {sl5 : Array (Option Value)} {oc5 kV5 dc5 pm5 cd5 ct5 : Value}
    (a5 : PySem.W.nsIn K mainGlobals "less_of" = some (some (.ref f5))) (l5 : K.lookup f5 = some ⟨oc5, od5, .func (PySem.W.fnOf "less_of" "less_of" (defArgs s_less_of) (defBody s_less_of) (defScope s_less_of) .none kV5 dc5 pm5 an5 cd5 ct5), sl5⟩) (c5 : PySem.W.codeIn K cd5 "less_of" = true) (k5 : PySem.W.keepIn K (.ref f5) = true)
    {f6 : Addr} {od6 an6 : Option Addr} {sl6 : Array (Option Value)} {oc6 kV6 dc6 pm6 cd6 ct6 : Value}
    (a6 : PySem.W.nsIn K mainGlobals "from_counts" = some (some (.ref f6))) (l6 : K.lookup f6 = some ⟨oc6, od6, .func (PySem.W.fnOf "from_counts" "from_counts" (defArgs s_from_counts) (defBody s_from_counts) (defScope s_from_counts) .none kV6 dc6 pm6 an6 cd6 ct6), sl6⟩) (c6 : PySem.W.codeIn K cd6 "from_counts" = true) (k6 : PySem.W.keepIn K (.ref f6) = true)
    {f7 : Addr} {od7 an7 : Option Addr} {sl7 : Array (Option Value)} {oc7 kV7 dc7 pm7 cd7 ct7 : Value}
    (a7 : PySem.W.nsIn K mainGlobals "take_by" = some (some (.ref f7))) (l7 : K.lookup f7 = some ⟨oc7, od7, .func (PySem.W.fnOf "take_by" "take_by" (defArgs s_take_by) (defBody s_take_by) (defScope s_take_by) .none kV7 dc7 pm7 an7 cd7 ct7), sl7⟩) (c7 : PySem.W.codeIn K cd7 "take_by" = true) (k7 : PySem.W.keepIn K (.ref f7) = true)
    {f8 : Addr} {od8 an8 : Option Addr} {sl8 : Array (Option Value)} {oc8 kV8 dc8 pm8 cd8 ct8 : Value}
    (a8 : PySem.W.nsIn K mainGlobals "list_bound" = some (some (.ref f8))) (l8 : K.lookup f8 = some ⟨oc8, od8, .func (PySem.W.fnOf "list_bound" "list_bound" (defArgs s_list_bound) (defBody s_list_bound) (defScope s_list_bound) .none kV8 dc8 pm8 an8 cd8 ct8), sl8⟩) (c8 : PySem.W.codeIn K cd8 "list_bound" = true) (k8 : PySem.W.keepIn K (.ref f8) = true)
    {f9 : Addr} {od9 an9 : Option Addr} {sl9 : Array (Option Value)} {oc9 kV9 dc9 pm9 cd9 ct9 : Value}
    (a9 : PySem.W.nsIn K mainGlobals "left_beside" = some (some (.ref f9))) (l9 : K.lookup f9 = some ⟨oc9, od9, .func (PySem.W.fnOf "left_beside" "left_beside" (defArgs s_left_beside) (defBody s_left_beside) (defScope s_left_beside) .none kV9 dc9 pm9 an9 cd9 ct9), sl9⟩) (c9 : PySem.W.codeIn K cd9 "left_beside" = true) (k9 : PySem.W.keepIn K (.ref f9) = true)
    {f10 : Addr} {od10 an10 : Option Addr} {sl10 : Array (Option Value)} {oc10 kV10 dc10 pm10 cd10 ct10 : Value}
    (a10 : PySem.W.nsIn K mainGlobals "list_sum" = some (some (.ref f10))) (l10 : K.lookup f10 = some ⟨oc10, od10, .func (PySem.W.fnOf "list_sum" "list_sum" (defArgs s_list_sum) (defBody s_list_sum) (defScope s_list_sum) .none kV10 dc10 pm10 an10 cd10 ct10), sl10⟩) (c10 : PySem.W.codeIn K cd10 "list_sum" = true) (k10 : PySem.W.keepIn K (.ref f10) = true)
    {f11 : Addr} {od11 an11 : Option Addr} {sl11 : Array (Option Value)} {oc11 kV11 dc11 pm11 cd11 ct11 : Value}
    (a11 : PySem.W.nsIn K mainGlobals "even_list" = some (some (.ref f11))) (l11 : K.lookup f11 = some ⟨oc11, od11, .func (PySem.W.fnOf "even_list" "even_list" (defArgs s_even_list) (defBody s_even_list) (defScope s_even_list) .none kV11 dc11 pm11 an11 cd11 ct11), sl11⟩) (c11 : PySem.W.codeIn K cd11 "even_list" = true) (k11 : PySem.W.keepIn K (.ref f11) = true)
    {f12 : Addr} {od12 an12 : Option Addr} {sl12 : Array (Option Value)} {oc12 kV12 dc12 pm12 cd12 ct12 : Value}
    (a12 : PySem.W.nsIn K mainGlobals "unsafe_at" = some (some (.ref f12))) (l12 : K.lookup f12 = some ⟨oc12, od12, .func (PySem.W.fnOf "unsafe_at" "unsafe_at" (defArgs s_unsafe_at) (defBody s_unsafe_at) (defScope s_unsafe_at) .none kV12 dc12 pm12 an12 cd12 ct12), sl12⟩) (c12 : PySem.W.codeIn K cd12 "unsafe_at" = true) (k12 : PySem.W.keepIn K (.ref f12) = true)
    {f13 : Addr} {od13 an13 : Option Addr} {sl13 : Array (Option Value)} {oc13 kV13 dc13 pm13 cd13 ct13 : Value}
    (a13 : PySem.W.nsIn K mainGlobals "look_at_paying" = some (some (.ref f13))) (l13 : K.lookup f13 = some ⟨oc13, od13, .func (PySem.W.fnOf "look_at_paying" "look_at_paying" (defArgs s_look_at_paying) (defBody s_look_at_paying) (defScope s_look_at_paying) .none kV13 dc13 pm13 an13 cd13 ct13), sl13⟩) (c13 : PySem.W.codeIn K cd13 "look_at_paying" = true) (k13 : PySem.W.keepIn K (.ref f13) = true)
    {f14 : Addr} {od14 an14 : Option Addr} {sl14 : Array (Option Value)} {oc14 kV14 dc14 pm14 cd14 ct14 : Value}
    (a14 : PySem.W.nsIn K mainGlobals "is_safe" = some (some (.ref f14))) (l14 : K.lookup f14 = some ⟨oc14, od14, .func (PySem.W.fnOf "is_safe" "is_safe" (defArgs s_is_safe) (defBody s_is_safe) (defScope s_is_safe) .none kV14 dc14 pm14 an14 cd14 ct14), sl14⟩) (c14 : PySem.W.codeIn K cd14 "is_safe" = true) (k14 : PySem.W.keepIn K (.ref f14) = true)
    {f15 : Addr} {od15 an15 : Option Addr} {sl15 : Array (Option Value)} {oc15 kV15 dc15 pm15 cd15 ct15 : Value}
    (a15 : PySem.W.nsIn K mainGlobals "telling_call" = some (some (.ref f15))) (l15 : K.lookup f15 = some ⟨oc15, od15, .func (PySem.W.fnOf "telling_call" "telling_call" (defArgs s_telling_call) (defBody s_telling_call) (defScope s_telling_call) .none kV15 dc15 pm15 an15 cd15 ct15), sl15⟩) (c15 : PySem.W.codeIn K cd15 "telling_call" = true) (k15 : PySem.W.keepIn K (.ref f15) = true)
    {f16 : Addr} {od16 an16 : Option Addr} {sl16 : Array (Option Value)} {oc16 kV16 dc16 pm16 cd16 ct16 : Value}
    (a16 : PySem.W.nsIn K mainGlobals "_law_mixed" = some (some (.ref f16))) (l16 : K.lookup f16 = some ⟨oc16, od16, .func (PySem.W.fnOf "_law_mixed" "_law_mixed" (defArgs s_law_mixed) (defBody s_law_mixed) (defScope s_law_mixed) .none kV16 dc16 pm16 an16 cd16 ct16), sl16⟩) (c16 : PySem.W.codeIn K cd16 "_law_mixed" = true) (k16 : PySem.W.keepIn K (.ref f16) = true)
    {f17 : Addr} {od17 an17 : Option Addr} {sl17 : Array (Option Value)} {oc17 kV17 dc17 pm17 cd17 ct17 : Value}
    (a17 : PySem.W.nsIn K mainGlobals "_law_cell" = some (some (.ref f17))) (l17 : K.lookup f17 = some ⟨oc17, od17, .func (PySem.W.fnOf "_law_cell" "_law_cell" (defArgs s_law_cell) (defBody s_law_cell) (defScope s_law_cell) .none kV17 dc17 pm17 an17 cd17 ct17), sl17⟩) (c17 : PySem.W.codeIn K cd17 "_law_cell" = true) (k17 : PySem.W.keepIn K (.ref f17) = true)
    {f18 : Addr} {od18 an18 : Option Addr} {sl18 : Array (Option Value)} {oc18 kV18 dc18 pm18 cd18 ct18 : Value}
    (a18 : PySem.W.nsIn K mainGlobals "_law_take" = some (some (.ref f18))) (l18 : K.lookup f18 = some ⟨oc18, od18, .func (PySem.W.fnOf "_law_take" "_law_take" (defArgs s_law_take) (defBody s_law_take) (defScope s_law_take) .none kV18 dc18 pm18 an18 cd18 ct18), sl18⟩) (c18 : PySem.W.codeIn K cd18 "_law_take" = true) (k18 : PySem.W.keepIn K (.ref f18) = true)
    {f19 : Addr} {od19 an19 : Option Addr} {sl19 : Array (Option Value)} {oc19 kV19 dc19 pm19 cd19 ct19 : Value}
    (a19 : PySem.W.nsIn K mainGlobals "_law_sum" = some (some (.ref f19))) (l19 : K.lookup f19 = some ⟨oc19, od19, .func (PySem.W.fnOf "_law_sum" "_law_sum" (defArgs s_law_sum) (defBody s_law_sum) (defScope s_law_sum) .none kV19 dc19 pm19 an19 cd19 ct19), sl19⟩) (c19 : PySem.W.codeIn K cd19 "_law_sum" = true) (k19 : PySem.W.keepIn K (.ref f19) = true)
    {f20 : Addr} {od20 an20 : Option Addr} {sl20 : Array (Option Value)} {oc20 kV20 dc20 pm20 cd20 ct20 : Value}
    (a20 : PySem.W.nsIn K mainGlobals "_law_under" = some (some (.ref f20))) (l20 : K.lookup f20 = some ⟨oc20, od20, .func (PySem.W.fnOf "_law_under" "_law_under" (defArgs s_law_under) (defBody s_law_under) (defScope s_law_under) .none kV20 dc20 pm20 an20 cd20 ct20), sl20⟩) (c20 : PySem.W.codeIn K cd20 "_law_under" = true) (k20 : PySem.W.keepIn K (.ref f20) = true)
    {f21 : Addr} {od21 an21 : Option Addr} {sl21 : Array (Option Value)} {oc21 kV21 dc21 pm21 cd21 ct21 : Value}
    (a21 : PySem.W.nsIn K mainGlobals "_law_heap" = some (some (.ref f21))) (l21 : K.lookup f21 = some ⟨oc21, od21, .func (PySem.W.fnOf "_law_heap" "_law_heap" (defArgs s_law_heap) (defBody s_law_heap) (defScope s_law_heap) .none kV21 dc21 pm21 an21 cd21 ct21), sl21⟩) (c21 : PySem.W.codeIn K cd21 "_law_heap" = true) (k21 : PySem.W.keepIn K (.ref f21) = true)
    {f22 : Addr} {od22 an22 : Option Addr} {sl22 : Array (Option Value)} {oc22 kV22 dc22 pm22 cd22 ct22 : Value}
    (a22 : PySem.W.nsIn K mainGlobals "_law_coins" = some (some (.ref f22))) (l22 : K.lookup f22 = some ⟨oc22, od22, .func (PySem.W.fnOf "_law_coins" "_law_coins" (defArgs s_law_coins) (defBody s_law_coins) (defScope s_law_coins) .none kV22 dc22 pm22 an22 cd22 ct22), sl22⟩) (c22 : PySem.W.codeIn K cd22 "_law_coins" = true) (k22 : PySem.W.keepIn K (.ref f22) = true)
    {f23 : Addr} {od23 an23 : Option Addr} {sl23 : Array (Option Value)} {oc23 kV23 dc23 pm23 cd23 ct23 : Value}
    (a23 : PySem.W.nsIn K mainGlobals "_law_length" = some (some (.ref f23))) (l23 : K.lookup f23 = some ⟨oc23, od23, .func (PySem.W.fnOf "_law_length" "_law_length" (defArgs s_law_length) (defBody s_law_length) (defScope s_law_length) .none kV23 dc23 pm23 an23 cd23 ct23), sl23⟩) (c23 : PySem.W.codeIn K cd23 "_law_length" = true) (k23 : PySem.W.keepIn K (.ref f23) = true)
    {f24 : Addr} {od24 an24 : Option Addr} {sl24 : Array (Option Value)} {oc24 kV24 dc24 pm24 cd24 ct24 : Value}
    (a24 : PySem.W.nsIn K mainGlobals "_law_row" = some (some (.ref f24))) (l24 : K.lookup f24 = some ⟨oc24, od24, .func (PySem.W.fnOf "_law_row" "_law_row" (defArgs s_law_row) (defBody s_law_row) (defScope s_law_row) .none kV24 dc24 pm24 an24 cd24 ct24), sl24⟩) (c24 : PySem.W.codeIn K cd24 "_law_row" = true) (k24 : PySem.W.keepIn K (.ref f24) = true)
    {f25 : Addr} {od25 an25 : Option Addr} {sl25 : Array (Option Value)} {oc25 kV25 dc25 pm25 cd25 ct25 : Value}
    (a25 : PySem.W.nsIn K mainGlobals "_law_top" = some (some (.ref f25))) (l25 : K.lookup f25 = some ⟨oc25, od25, .func (PySem.W.fnOf "_law_top" "_law_top" (defArgs s_law_top) (defBody s_law_top) (defScope s_law_top) .none kV25 dc25 pm25 an25 cd25 ct25), sl25⟩) (c25 : PySem.W.codeIn K cd25 "_law_top" = true) (k25 : PySem.W.keepIn K (.ref f25) = true)
    {f26 : Addr} {od26 an26 : Option Addr} {sl26 : Array (Option Value)} {oc26 kV26 dc26 pm26 cd26 ct26 : Value}
    (a26 : PySem.W.nsIn K mainGlobals "_law_holds" = some (some (.ref f26))) (l26 : K.lookup f26 = some ⟨oc26, od26, .func (PySem.W.fnOf "_law_holds" "_law_holds" (defArgs s_law_holds) (defBody s_law_holds) (defScope s_law_holds) .none kV26 dc26 pm26 an26 cd26 ct26), sl26⟩) (c26 : PySem.W.codeIn K cd26 "_law_holds" = true) (k26 : PySem.W.keepIn K (.ref f26) = true)
    {f27 : Addr} {od27 an27 : Option Addr} {sl27 : Array (Option Value)} {oc27 kV27 dc27 pm27 cd27 ct27 : Value}
    (a27 : PySem.W.nsIn K mainGlobals "_law_right" = some (some (.ref f27))) (l27 : K.lookup f27 = some ⟨oc27, od27, .func (PySem.W.fnOf "_law_right" "_law_right" (defArgs s_law_right) (defBody s_law_right) (defScope s_law_right) .none kV27 dc27 pm27 an27 cd27 ct27), sl27⟩) (c27 : PySem.W.codeIn K cd27 "_law_right" = true) (k27 : PySem.W.keepIn K (.ref f27) = true)
    {f28 : Addr} {od28 an28 : Option Addr} {sl28 : Array (Option Value)} {oc28 kV28 dc28 pm28 cd28 ct28 : Value}
    (a28 : PySem.W.nsIn K mainGlobals "_law_cap" = some (some (.ref f28))) (l28 : K.lookup f28 = some ⟨oc28, od28, .func (PySem.W.fnOf "_law_cap" "_law_cap" (defArgs s_law_cap) (defBody s_law_cap) (defScope s_law_cap) .none kV28 dc28 pm28 an28 cd28 ct28), sl28⟩) (c28 : PySem.W.codeIn K cd28 "_law_cap" = true) (k28 : PySem.W.keepIn K (.ref f28) = true)
    {f29 : Addr} {od29 an29 : Option Addr} {sl29 : Array (Option Value)} {oc29 kV29 dc29 pm29 cd29 ct29 : Value}
    (a29 : PySem.W.nsIn K mainGlobals "_law_till" = some (some (.ref f29))) (l29 : K.lookup f29 = some ⟨oc29, od29, .func (PySem.W.fnOf "_law_till" "_law_till" (defArgs s_law_till) (defBody s_law_till) (defScope s_law_till) .none kV29 dc29 pm29 an29 cd29 ct29), sl29⟩) (c29 : PySem.W.codeIn K cd29 "_law_till" = true) (k29 : PySem.W.keepIn K (.ref f29) = true)
    {f30 : Addr} {od30 an30 : Option Addr} {sl30 : Array (Option Value)} {oc30 kV30 dc30 pm30 cd30 ct30 : Value}
    (a30 : PySem.W.nsIn K mainGlobals "_law_behind" = some (some (.ref f30))) (l30 : K.lookup f30 = some ⟨oc30, od30, .func (PySem.W.fnOf "_law_behind" "_law_behind" (defArgs s_law_behind) (defBody s_law_behind) (defScope s_law_behind) .none kV30 dc30 pm30 an30 cd30 ct30), sl30⟩) (c30 : PySem.W.codeIn K cd30 "_law_behind" = true) (k30 : PySem.W.keepIn K (.ref f30) = true)
    {f31 : Addr} {od31 an31 : Option Addr} {sl31 : Array (Option Value)} {oc31 kV31 dc31 pm31 cd31 ct31 : Value}
    (a31 : PySem.W.nsIn K mainGlobals "_law_whole_from" = some (some (.ref f31))) (l31 : K.lookup f31 = some ⟨oc31, od31, .func (PySem.W.fnOf "_law_whole_from" "_law_whole_from" (defArgs s_law_whole_from) (defBody s_law_whole_from) (defScope s_law_whole_from) .none kV31 dc31 pm31 an31 cd31 ct31), sl31⟩) (c31 : PySem.W.codeIn K cd31 "_law_whole_from" = true) (k31 : PySem.W.keepIn K (.ref f31) = true)
    {f32 : Addr} {od32 an32 : Option Addr} {sl32 : Array (Option Value)} {oc32 kV32 dc32 pm32 cd32 ct32 : Value}
    (a32 : PySem.W.nsIn K mainGlobals "_law_names" = some (some (.ref f32))) (l32 : K.lookup f32 = some ⟨oc32, od32, .func (PySem.W.fnOf "_law_names" "_law_names" (defArgs s_law_names) (defBody s_law_names) (defScope s_law_names) .none kV32 dc32 pm32 an32 cd32 ct32), sl32⟩) (c32 : PySem.W.codeIn K cd32 "_law_names" = true) (k32 : PySem.W.keepIn K (.ref f32) = true)
    {f33 : Addr} {od33 an33 : Option Addr} {sl33 : Array (Option Value)} {oc33 kV33 dc33 pm33 cd33 ct33 : Value}
    (a33 : PySem.W.nsIn K mainGlobals "_law_tag" = some (some (.ref f33))) (l33 : K.lookup f33 = some ⟨oc33, od33, .func (PySem.W.fnOf "_law_tag" "_law_tag" (defArgs s_law_tag) (defBody s_law_tag) (defScope s_law_tag) .none kV33 dc33 pm33 an33 cd33 ct33), sl33⟩) (c33 : PySem.W.codeIn K cd33 "_law_tag" = true) (k33 : PySem.W.keepIn K (.ref f33) = true)
    {f34 : Addr} {od34 an34 : Option Addr} {sl34 : Array (Option Value)} {oc34 kV34 dc34 pm34 cd34 ct34 : Value}
    (a34 : PySem.W.nsIn K mainGlobals "_law_formed" = some (some (.ref f34))) (l34 : K.lookup f34 = some ⟨oc34, od34, .func (PySem.W.fnOf "_law_formed" "_law_formed" (defArgs s_law_formed) (defBody s_law_formed) (defScope s_law_formed) .none kV34 dc34 pm34 an34 cd34 ct34), sl34⟩) (c34 : PySem.W.codeIn K cd34 "_law_formed" = true) (k34 : PySem.W.keepIn K (.ref f34) = true)
    {f35 : Addr} {od35 an35 : Option Addr} {sl35 : Array (Option Value)} {oc35 kV35 dc35 pm35 cd35 ct35 : Value}
    (a35 : PySem.W.nsIn K mainGlobals "_law_is_right" = some (some (.ref f35))) (l35 : K.lookup f35 = some ⟨oc35, od35, .func (PySem.W.fnOf "_law_is_right" "_law_is_right" (defArgs s_law_is_right) (defBody s_law_is_right) (defScope s_law_is_right) .none kV35 dc35 pm35 an35 cd35 ct35), sl35⟩) (c35 : PySem.W.codeIn K cd35 "_law_is_right" = true) (k35 : PySem.W.keepIn K (.ref f35) = true)
    {f36 : Addr} {od36 an36 : Option Addr} {sl36 : Array (Option Value)} {oc36 kV36 dc36 pm36 cd36 ct36 : Value}
    (a36 : PySem.W.nsIn K mainGlobals "_law_payings" = some (some (.ref f36))) (l36 : K.lookup f36 = some ⟨oc36, od36, .func (PySem.W.fnOf "_law_payings" "_law_payings" (defArgs s_law_payings) (defBody s_law_payings) (defScope s_law_payings) .none kV36 dc36 pm36 an36 cd36 ct36), sl36⟩) (c36 : PySem.W.codeIn K cd36 "_law_payings" = true) (k36 : PySem.W.keepIn K (.ref f36) = true)
    {f37 : Addr} {od37 an37 : Option Addr} {sl37 : Array (Option Value)} {oc37 kV37 dc37 pm37 cd37 ct37 : Value}
    (a37 : PySem.W.nsIn K mainGlobals "_law_left" = some (some (.ref f37))) (l37 : K.lookup f37 = some ⟨oc37, od37, .func (PySem.W.fnOf "_law_left" "_law_left" (defArgs s_law_left) (defBody s_law_left) (defScope s_law_left) .none kV37 dc37 pm37 an37 cd37 ct37), sl37⟩) (c37 : PySem.W.codeIn K cd37 "_law_left" = true) (k37 : PySem.W.keepIn K (.ref f37) = true)
    {f38 : Addr} {od38 an38 : Option Addr} {sl38 : Array (Option Value)} {oc38 kV38 dc38 pm38 cd38 ct38 : Value}
    (a38 : PySem.W.nsIn K mainGlobals "_law_told_good" = some (some (.ref f38))) (l38 : K.lookup f38 = some ⟨oc38, od38, .func (PySem.W.fnOf "_law_told_good" "_law_told_good" (defArgs s_law_told_good) (defBody s_law_told_good) (defScope s_law_told_good) .none kV38 dc38 pm38 an38 cd38 ct38), sl38⟩) (c38 : PySem.W.codeIn K cd38 "_law_told_good" = true) (k38 : PySem.W.keepIn K (.ref f38) = true)
    {f39 : Addr} {od39 an39 : Option Addr} {sl39 : Array (Option Value)} {oc39 kV39 dc39 pm39 cd39 ct39 : Value}
    (a39 : PySem.W.nsIn K mainGlobals "_law_good" = some (some (.ref f39))) (l39 : K.lookup f39 = some ⟨oc39, od39, .func (PySem.W.fnOf "_law_good" "_law_good" (defArgs s_law_good) (defBody s_law_good) (defScope s_law_good) .none kV39 dc39 pm39 an39 cd39 ct39), sl39⟩) (c39 : PySem.W.codeIn K cd39 "_law_good" = true) (k39 : PySem.W.keepIn K (.ref f39) = true)
    {f40 : Addr} {od40 an40 : Option Addr} {sl40 : Array (Option Value)} {oc40 kV40 dc40 pm40 cd40 ct40 : Value}
    (a40 : PySem.W.nsIn K mainGlobals "law" = some (some (.ref f40))) (l40 : K.lookup f40 = some ⟨oc40, od40, .func (PySem.W.fnOf "law" "law" (defArgs s_law) (defBody s_law) (defScope s_law) .none kV40 dc40 pm40 an40 cd40 ct40), sl40⟩) (c40 : PySem.W.codeIn K cd40 "law" = true) (k40 : PySem.W.keepIn K (.ref f40) = true)
    (z_len : PySem.W.nsIn K mainGlobals "len" = some none) (z_sum : PySem.W.nsIn K mainGlobals "sum" = some none) (z_min : PySem.W.nsIn K mainGlobals "min" = some none) (z_max : PySem.W.nsIn K mainGlobals "max" = some none) (z_all : PySem.W.nsIn K mainGlobals "all" = some none) (z_range : PySem.W.nsIn K mainGlobals "range" = some none) (z_zip : PySem.W.nsIn K mainGlobals "zip" = some none) (z_enumerate : PySem.W.nsIn K mainGlobals "enumerate" = some none) (z_isinstance : PySem.W.nsIn K mainGlobals "isinstance" = some none) (z_int : PySem.W.nsIn K mainGlobals "int" = some none) (z_bool : PySem.W.nsIn K mainGlobals "bool" = some none) (z_tuple : PySem.W.nsIn K mainGlobals "tuple" = some none) (z_str : PySem.W.nsIn K mainGlobals "str" = some none) (z_list : PySem.W.nsIn K mainGlobals "list" = some none) (z_dict : PySem.W.nsIn K mainGlobals "dict" = some none) (z_set : PySem.W.nsIn K mainGlobals "set" = some none) (z_sorted : PySem.W.nsIn K mainGlobals "sorted" = some none) (z_divmod : PySem.W.nsIn K mainGlobals "divmod" = some none) :
    ∃ fd : FuncData, (∀ (s : Shared) (v : Value), BindsTo s fd ⟨[v], []⟩ [("_law_script", v)]) ∧ ∀ base : Heap, K.In base → base.Ns mainGlobals mg → FnOk l.prog w K mg base CX0 9 fa fd ["_law_script"] (spLaw K) := by
  have e := hfa.symm.trans (PySem.W.mg_of X G a40)
  cases e
  have Z : Bi mg := ⟨PySem.W.mg_none_of X G z_len, PySem.W.mg_none_of X G z_sum, PySem.W.mg_none_of X G z_min, PySem.W.mg_none_of X G z_max, PySem.W.mg_none_of X G z_all, PySem.W.mg_none_of X G z_range, PySem.W.mg_none_of X G z_zip, PySem.W.mg_none_of X G z_enumerate, PySem.W.mg_none_of X G z_isinstance, PySem.W.mg_none_of X G z_int, PySem.W.mg_none_of X G z_bool, PySem.W.mg_none_of X G z_tuple, PySem.W.mg_none_of X G z_str, PySem.W.mg_none_of X G z_list, PySem.W.mg_none_of X G z_dict, PySem.W.mg_none_of X G z_set, PySem.W.mg_none_of X G z_sorted, PySem.W.mg_none_of X G z_divmod⟩
  have Dis_from : Dfn K mg "is_from" s_is_from ["thing", "least"] := dfn_mk X G a0 l0 c0 k0 fun _ _ _ _ _ _ us hl => match us, hl with | [_, _], _ => rfl
  have Dis_lot : Dfn K mg "is_lot" s_is_lot ["thing"] := dfn_mk X G a1 l1 c1 k1 fun _ _ _ _ _ _ us hl => match us, hl with | [_], _ => rfl
  have Dis_pile : Dfn K mg "is_pile" s_is_pile ["thing"] := dfn_mk X G a2 l2 c2 k2 fun _ _ _ _ _ _ us hl => match us, hl with | [_], _ => rfl
  have Dlook_at_pile : Dfn K mg "look_at_pile" s_look_at_pile ["thing"] := dfn_mk X G a3 l3 c3 k3 fun _ _ _ _ _ _ us hl => match us, hl with | [_], _ => rfl
  have Dsum_of : Dfn K mg "sum_of" s_sum_of ["pile"] := dfn_mk X G a4 l4 c4 k4 fun _ _ _ _ _ _ us hl => match us, hl with | [_], _ => rfl
  have Dless_of : Dfn K mg "less_of" s_less_of ["pile", "worth"] := dfn_mk X G a5 l5 c5 k5 fun _ _ _ _ _ _ us hl => match us, hl with | [_, _], _ => rfl
  have Dfrom_counts : Dfn K mg "from_counts" s_from_counts ["counts"] := dfn_mk X G a6 l6 c6 k6 fun _ _ _ _ _ _ us hl => match us, hl with | [_], _ => rfl
  have Dtake_by : Dfn K mg "take_by" s_take_by ["pile", "other"] := dfn_mk X G a7 l7 c7 k7 fun _ _ _ _ _ _ us hl => match us, hl with | [_, _], _ => rfl
  have Dlist_bound : Dfn K mg "list_bound" s_list_bound ["below", "worth", "there"] := dfn_mk X G a8 l8 c8 k8 fun _ _ _ _ _ _ us hl => match us, hl with | [_, _, _], _ => rfl
  have Dleft_beside : Dfn K mg "left_beside" s_left_beside ["pile", "amount"] := dfn_mk X G a9 l9 c9 k9 fun _ _ _ _ _ _ us hl => match us, hl with | [_, _], _ => rfl
  have Dlist_sum : Dfn K mg "list_sum" s_list_sum ["pile", "amount", "below"] := dfn_mk X G a10 l10 c10 k10 fun _ _ _ _ _ _ us hl => match us, hl with | [_, _, _], _ => rfl
  have Deven_list : Dfn K mg "even_list" s_even_list ["below", "total"] := dfn_mk X G a11 l11 c11 k11 fun _ _ _ _ _ _ us hl => match us, hl with | [_, _], _ => rfl
  have Dunsafe_at : Dfn K mg "unsafe_at" s_unsafe_at ["pile", "paying"] := dfn_mk X G a12 l12 c12 k12 fun _ _ _ _ _ _ us hl => match us, hl with | [_, _], _ => rfl
  have Dlook_at_paying : Dfn K mg "look_at_paying" s_look_at_paying ["pile", "paying"] := dfn_mk X G a13 l13 c13 k13 fun _ _ _ _ _ _ us hl => match us, hl with | [_, _], _ => rfl
  have Dis_safe : Dfn K mg "is_safe" s_is_safe ["pile", "paying"] := dfn_mk X G a14 l14 c14 k14 fun _ _ _ _ _ _ us hl => match us, hl with | [_, _], _ => rfl
  have Dtelling_call : Dfn K mg "telling_call" s_telling_call ["pile", "paying"] := dfn_mk X G a15 l15 c15 k15 fun _ _ _ _ _ _ us hl => match us, hl with | [_, _], _ => rfl
  have D_law_mixed : Dfn K mg "_law_mixed" s_law_mixed ["_law_cell_here", "_law_k"] := dfn_mk X G a16 l16 c16 k16 fun _ _ _ _ _ _ us hl => match us, hl with | [_, _], _ => rfl
  have D_law_cell : Dfn K mg "_law_cell" s_law_cell ["_law_script", "_law_k"] := dfn_mk X G a17 l17 c17 k17 fun _ _ _ _ _ _ us hl => match us, hl with | [_, _], _ => rfl
  have D_law_take : Dfn K mg "_law_take" s_law_take ["_law_pile", "_law_size"] := dfn_mk X G a18 l18 c18 k18 fun _ _ _ _ _ _ us hl => match us, hl with | [_, _], _ => rfl
  have D_law_sum : Dfn K mg "_law_sum" s_law_sum ["_law_pile"] := dfn_mk X G a19 l19 c19 k19 fun _ _ _ _ _ _ us hl => match us, hl with | [_], _ => rfl
  have D_law_under : Dfn K mg "_law_under" s_law_under ["_law_pile", "_law_bound"] := dfn_mk X G a20 l20 c20 k20 fun _ _ _ _ _ _ us hl => match us, hl with | [_, _], _ => rfl
  have D_law_heap : Dfn K mg "_law_heap" s_law_heap ["_law_coins_here"] := dfn_mk X G a21 l21 c21 k21 fun _ _ _ _ _ _ us hl => match us, hl with | [_], _ => rfl
  have D_law_coins : Dfn K mg "_law_coins" s_law_coins ["_law_pile"] := dfn_mk X G a22 l22 c22 k22 fun _ _ _ _ _ _ us hl => match us, hl with | [_], _ => rfl
  have D_law_length : Dfn K mg "_law_length" s_law_length ["_law_right_here"] := dfn_mk X G a23 l23 c23 k23 fun _ _ _ _ _ _ us hl => match us, hl with | [_], _ => rfl
  have D_law_row : Dfn K mg "_law_row" s_law_row ["_law_right_here", "_law_bound", "_law_many"] := dfn_mk X G a24 l24 c24 k24 fun _ _ _ _ _ _ us hl => match us, hl with | [_, _, _], _ => rfl
  have D_law_top : Dfn K mg "_law_top" s_law_top ["_law_right_here", "_law_bound"] := dfn_mk X G a25 l25 c25 k25 fun _ _ _ _ _ _ us hl => match us, hl with | [_, _], _ => rfl
  have D_law_holds : Dfn K mg "_law_holds" s_law_holds ["_law_pile", "_law_right_here"] := dfn_mk X G a26 l26 c26 k26 fun _ _ _ _ _ _ us hl => match us, hl with | [_, _], _ => rfl
  have D_law_right : Dfn K mg "_law_right" s_law_right ["_law_digits", "_law_deep", "_law_spare", "_law_size"] := dfn_mk X G a27 l27 c27 k27 fun _ _ _ _ _ _ us hl => match us, hl with | [_, _, _, _], _ => rfl
  have D_law_cap : Dfn K mg "_law_cap" s_law_cap ["_law_right_here", "_law_there", "_law_most_worth"] := dfn_mk X G a28 l28 c28 k28 fun _ _ _ _ _ _ us hl => match us, hl with | [_, _, _], _ => rfl
  have D_law_till : Dfn K mg "_law_till" s_law_till ["_law_digits", "_law_right_here"] := dfn_mk X G a29 l29 c29 k29 fun _ _ _ _ _ _ us hl => match us, hl with | [_, _], _ => rfl
  have D_law_behind : Dfn K mg "_law_behind" s_law_behind ["_law_right_here", "_law_name", "_law_amount"] := dfn_mk X G a30 l30 c30 k30 fun _ _ _ _ _ _ us hl => match us, hl with | [_, _, _], _ => rfl
  have D_law_whole_from : Dfn K mg "_law_whole_from" s_law_whole_from ["_law_thing", "_law_least"] := dfn_mk X G a31 l31 c31 k31 fun _ _ _ _ _ _ us hl => match us, hl with | [_, _], _ => rfl
  have D_law_names : Dfn K mg "_law_names" s_law_names ["_law_right_here"] := dfn_mk X G a32 l32 c32 k32 fun _ _ _ _ _ _ us hl => match us, hl with | [_], _ => rfl
  have D_law_tag : Dfn K mg "_law_tag" s_law_tag ["_law_thing"] := dfn_mk X G a33 l33 c33 k33 fun _ _ _ _ _ _ us hl => match us, hl with | [_], _ => rfl
  have D_law_formed : Dfn K mg "_law_formed" s_law_formed ["_law_thing", "_law_deep"] := dfn_mk X G a34 l34 c34 k34 fun _ _ _ _ _ _ us hl => match us, hl with | [_, _], _ => rfl
  have D_law_is_right : Dfn K mg "_law_is_right" s_law_is_right ["_law_thing"] := dfn_mk X G a35 l35 c35 k35 fun _ _ _ _ _ _ us hl => match us, hl with | [_], _ => rfl
  have D_law_payings : Dfn K mg "_law_payings" s_law_payings ["_law_pile", "_law_amount"] := dfn_mk X G a36 l36 c36 k36 fun _ _ _ _ _ _ us hl => match us, hl with | [_, _], _ => rfl
  have D_law_left : Dfn K mg "_law_left" s_law_left ["_law_pile", "_law_paying"] := dfn_mk X G a37 l37 c37 k37 fun _ _ _ _ _ _ us hl => match us, hl with | [_, _], _ => rfl
  have D_law_told_good : Dfn K mg "_law_told_good" s_law_told_good ["_law_pile", "_law_paying", "_law_left_here"] := dfn_mk X G a38 l38 c38 k38 fun _ _ _ _ _ _ us hl => match us, hl with | [_, _, _], _ => rfl
  have D_law_good : Dfn K mg "_law_good" s_law_good ["_law_pile", "_law_right_here", "_law_name", "_law_amount"] := dfn_mk X G a39 l39 c39 k39 fun _ _ _ _ _ _ us hl => match us, hl with | [_, _, _, _], _ => rfl
  have Dlaw : Dfn K mg "law" s_law ["_law_script"] := dfn_mk X G a40 l40 c40 k40 fun _ _ _ _ _ _ us hl => match us, hl with | [_], _ => rfl
  refine ⟨PySem.W.fnOf "law" "law" (defArgs s_law) (defBody s_law) (defScope s_law) .none kV40 dc40 pm40 an40 cd40 ct40, fun s v => .of_eq rfl, fun base _ _ => ?_⟩
  have Csum : Cal l.prog w K mg base "_law_sum" 1 spSum := ok_law_sum D_law_sum Z
  have Cund : Cal l.prog w K mg base "_law_under" 1 spUnder := ok_law_under D_law_under Z
  have Clen : ∀ n, Cal l.prog w K mg base "_law_length" n (spLen n) := ok_law_length D_law_length Z
  have Crow : ∀ n, Cal l.prog w K mg base "_law_row" n (spRow n) := ok_law_row D_law_row Z
  have Ctop : ∀ n, Cal l.prog w K mg base "_law_top" n (spTop n) := ok_law_top D_law_top Z Crow Clen
  have Cho2 : Cal l.prog w K mg base "_law_holds" 3 (spHolds 2) := ok_law_holds D_law_holds Z Ctop Cund Csum 2 (by decide)
  have Cho4 : Cal l.prog w K mg base "_law_holds" 5 (spHolds 4) := ok_law_holds D_law_holds Z Ctop Cund Csum 4 (by decide)
  have Cbeh : ∀ n, Cal l.prog w K mg base "_law_behind" n (spBeh n) := ok_law_behind D_law_behind Z
  have Cnam : ∀ n, Cal l.prog w K mg base "_law_names" n (spNames n) := ok_law_names D_law_names Z
  have Cwf : Cal l.prog w K mg base "_law_whole_from" 1 spFrom := ok_law_whole_from D_law_whole_from Z
  have Cif : Cal l.prog w K mg base "is_from" 1 spFrom := okis_from Dis_from Z
  have Cil : Cal l.prog w K mg base "is_lot" 2 spLot := okis_lot Dis_lot Z Cif
  have Cip : Cal l.prog w K mg base "is_pile" 3 spPile := okis_pile Dis_pile Z Cil
  have Clp : Cal l.prog w K mg base "look_at_pile" 4 spLook := oklook_at_pile Dlook_at_pile Z Cip
  have Cso : Cal l.prog w K mg base "sum_of" 1 spSum := oksum_of Dsum_of Z
  have Clo : Cal l.prog w K mg base "less_of" 1 spUnder := okless_of Dless_of Z
  have Clb : Cal l.prog w K mg base "list_bound" 1 spBound := oklist_bound Dlist_bound Z
  have Cbs : Cal l.prog w K mg base "left_beside" 2 spBeside := okleft_beside Dleft_beside Z Clo
  have Cls : Cal l.prog w K mg base "list_sum" 3 spLSum := oklist_sum Dlist_sum Z Cbs Cso Clb
  have Ctag : Cal l.prog w K mg base "_law_tag" 1 spTag := ok_law_tag D_law_tag Z
  have Cf1 : Cal l.prog w K mg base "_law_formed" 2 spForm1 := ok_law_formed1 D_law_formed Z Ctag Cwf
  have Cf2 : Cal l.prog w K mg base "_law_formed" 3 spForm2 := ok_law_formed2 D_law_formed Z Ctag Cwf Cf1
  have Cir : Cal l.prog w K mg base "_law_is_right" 4 spIsR := ok_law_is_right D_law_is_right Z Cf2 (Cnam 2)
  have Cfc : Cal l.prog w K mg base "from_counts" 1 spFromC := okfrom_counts Dfrom_counts Z
  have Ctb : Cal l.prog w K mg base "take_by" 2 spTake := oktake_by Dtake_by Z Cfc
  have Cua : Cal l.prog w K mg base "unsafe_at" 4 spUnsafe := okunsafe_at Dunsafe_at Z Ctb Cso Cls Clo
  have Cly : Cal l.prog w K mg base "look_at_paying" 5 spLookP := oklook_at_paying Dlook_at_paying Z Clp
  have Cis : Cal l.prog w K mg base "is_safe" 6 spSafe := okis_safe Dis_safe Z Cly Cua
  have Cel : Cal l.prog w K mg base "even_list" 1 spEvenF := okeven_listF Deven_list Z
  have Ctc : Cal l.prog w K mg base "telling_call" 6 spTell := oktelling_call Dtelling_call Z Cly Cua Cso Cel
  have Clf : Cal l.prog w K mg base "_law_left" 1 spLeft := ok_law_left D_law_left Z
  have Ctg : Cal l.prog w K mg base "_law_told_good" 7 spTG := ok_law_told_good D_law_told_good Z Ctc Cis Cir Cho2 (Cbeh 2) Csum
  have Cpy : Cal l.prog w K mg base "_law_payings" 2 spPay := ok_law_payings D_law_payings Z Csum
  have Cgd : Cal l.prog w K mg base "_law_good" 8 spGood := ok_law_good D_law_good Z (Cbeh 4) Csum Cho4 Cpy Clf Ctg Cis
  have Ctk : Cal l.prog w K mg base "_law_take" 1 spTk := ok_law_take D_law_take Z
  have Crt : Cal l.prog w K mg base "_law_right" 5 (spRt 3) := ok_law_right D_law_right Z Ctk 3
  have Chp : Cal l.prog w K mg base "_law_heap" 1 spHeap := ok_law_heap D_law_heap Z
  have Ccn : Cal l.prog w K mg base "_law_coins" 1 spCoins := ok_law_coins D_law_coins Z
  have Ccp : Cal l.prog w K mg base "_law_cap" 5 spCap := ok_law_cap D_law_cap Z (Ctop 4)
  have Ctl : Cal l.prog w K mg base "_law_till" 6 spTill := ok_law_till D_law_till Z (Ctop 4) Ccp Ctk Chp
  have Cmx : Cal l.prog w K mg base "_law_mixed" 1 spMix := ok_law_mixed D_law_mixed Z
  have Ccl : Cal l.prog w K mg base "_law_cell" 2 (spCell K) := ok_law_cell D_law_cell Z Cmx
  exact ok_law Dlaw Z Ccl Crt Ctl Ccn Chp (Cnam 4) Cgd Ctk Cis Ctg (fun_mk l40 c40 k40)
end K27
open PySem PySem.W PyProof.Rows
set_option maxHeartbeats 0 in
theorem PySem.Challenge.cw_blindtill_k27_whole_rights_behind_safe_p_holds : PySem.Challenge.rw_blindtill_k27_whole_rights_behind_safe_p.Holds := by
  w_on; o_law; k_head; (case hw => w_witness2)
  k_fill
  refine L2.walk_of (l := PySem.Challenge.rw_blindtill_k27_whole_rights_behind_safe_p) (n := 63) (k := 9) (x := "_law_script") (CX := fun _ => L2.CX0) (sp := fun w => K27.spLaw _) rfl (by decide) rfl ⟨rfl, by decide, by decide⟩ (fun w h Y => PySem.W.kIn_of Y) ?F (fun _ _ a ns hl ho hS => ⟨a, ns, rfl, hS, ho, hl, fun _ => rfl⟩) (fun _ _ _ _ _ h => h)
  case F =>
    intro w mg fa h KX G hmg
    refine' K27.all_mk KX G hmg ?a0 ?l0 ?c0 ?k0 ?a1 ?l1 ?c1 ?k1 ?a2 ?l2 ?c2 ?k2 ?a3 ?l3 ?c3 ?k3 ?a4 ?l4 ?c4 ?k4 ?a5 ?l5 ?c5 ?k5 ?a6 ?l6 ?c6 ?k6 ?a7 ?l7 ?c7 ?k7 ?a8 ?l8 ?c8 ?k8 ?a9 ?l9 ?c9 ?k9 ?a10 ?l10 ?c10 ?k10 ?a11 ?l11 ?c11 ?k11 ?a12 ?l12 ?c12 ?k12 ?a13 ?l13 ?c13 ?k13 ?a14 ?l14 ?c14 ?k14 ?a15 ?l15 ?c15 ?k15 ?a16 ?l16 ?c16 ?k16 ?a17 ?l17 ?c17 ?k17 ?a18 ?l18 ?c18 ?k18 ?a19 ?l19 ?c19 ?k19 ?a20 ?l20 ?c20 ?k20 ?a21 ?l21 ?c21 ?k21 ?a22 ?l22 ?c22 ?k22 ?a23 ?l23 ?c23 ?k23 ?a24 ?l24 ?c24 ?k24 ?a25 ?l25 ?c25 ?k25 ?a26 ?l26 ?c26 ?k26 ?a27 ?l27 ?c27 ?k27 ?a28 ?l28 ?c28 ?k28 ?a29 ?l29 ?c29 ?k29 ?a30 ?l30 ?c30 ?k30 ?a31 ?l31 ?c31 ?k31 ?a32 ?l32 ?c32 ?k32 ?a33 ?l33 ?c33 ?k33 ?a34 ?l34 ?c34 ?k34 ?a35 ?l35 ?c35 ?k35 ?a36 ?l36 ?c36 ?k36 ?a37 ?l37 ?c37 ?k37 ?a38 ?l38 ?c38 ?k38 ?a39 ?l39 ?c39 ?k39 ?a40 ?l40 ?c40 ?k40 ?z_len ?z_sum ?z_min ?z_max ?z_all ?z_range ?z_zip ?z_enumerate ?z_isinstance ?z_int ?z_bool ?z_tuple ?z_str ?z_list ?z_dict ?z_set ?z_sorted ?z_divmod
    (case a0 => k_is); (case l0 => k_is); (case c0 => k_is); (case k0 => k_is)
    (case a1 => k_is); (case l1 => k_is); (case c1 => k_is); (case k1 => k_is)
    (case a2 => k_is); (case l2 => k_is); (case c2 => k_is); (case k2 => k_is)
    (case a3 => k_is); (case l3 => k_is); (case c3 => k_is); (case k3 => k_is)
    (case a4 => k_is); (case l4 => k_is); (case c4 => k_is); (case k4 => k_is)
    (case a5 => k_is); (case l5 => k_is); (case c5 => k_is); (case k5 => k_is)
    (case a6 => k_is); (case l6 => k_is); (case c6 => k_is); (case k6 => k_is)
    (case a7 => k_is); (case l7 => k_is); (case c7 => k_is); (case k7 => k_is)
    (case a8 => k_is); (case l8 => k_is); (case c8 => k_is); (case k8 => k_is)
    (case a9 => k_is); (case l9 => k_is); (case c9 => k_is); (case k9 => k_is)
    (case a10 => k_is); (case l10 => k_is); (case c10 => k_is); (case k10 => k_is)
    (case a11 => k_is); (case l11 => k_is); (case c11 => k_is); (case k11 => k_is)
    (case a12 => k_is); (case l12 => k_is); (case c12 => k_is); (case k12 => k_is)
    (case a13 => k_is); (case l13 => k_is); (case c13 => k_is); (case k13 => k_is)
    (case a14 => k_is); (case l14 => k_is); (case c14 => k_is); (case k14 => k_is)
    (case a15 => k_is); (case l15 => k_is); (case c15 => k_is); (case k15 => k_is)
    (case a16 => k_is); (case l16 => k_is); (case c16 => k_is); (case k16 => k_is)
    (case a17 => k_is); (case l17 => k_is); (case c17 => k_is); (case k17 => k_is)
    (case a18 => k_is); (case l18 => k_is); (case c18 => k_is); (case k18 => k_is)
    (case a19 => k_is); (case l19 => k_is); (case c19 => k_is); (case k19 => k_is)
    (case a20 => k_is); (case l20 => k_is); (case c20 => k_is); (case k20 => k_is)
    (case a21 => k_is); (case l21 => k_is); (case c21 => k_is); (case k21 => k_is)
    (case a22 => k_is); (case l22 => k_is); (case c22 => k_is); (case k22 => k_is)
    (case a23 => k_is); (case l23 => k_is); (case c23 => k_is); (case k23 => k_is)
    (case a24 => k_is); (case l24 => k_is); (case c24 => k_is); (case k24 => k_is)
    (case a25 => k_is); (case l25 => k_is); (case c25 => k_is); (case k25 => k_is)
    (case a26 => k_is); (case l26 => k_is); (case c26 => k_is); (case k26 => k_is)
    (case a27 => k_is); (case l27 => k_is); (case c27 => k_is); (case k27 => k_is)
    (case a28 => k_is); (case l28 => k_is); (case c28 => k_is); (case k28 => k_is)
    (case a29 => k_is); (case l29 => k_is); (case c29 => k_is); (case k29 => k_is)
    (case a30 => k_is); (case l30 => k_is); (case c30 => k_is); (case k30 => k_is)
    (case a31 => k_is); (case l31 => k_is); (case c31 => k_is); (case k31 => k_is)
    (case a32 => k_is); (case l32 => k_is); (case c32 => k_is); (case k32 => k_is)
    (case a33 => k_is); (case l33 => k_is); (case c33 => k_is); (case k33 => k_is)
    (case a34 => k_is); (case l34 => k_is); (case c34 => k_is); (case k34 => k_is)
    (case a35 => k_is); (case l35 => k_is); (case c35 => k_is); (case k35 => k_is)
    (case a36 => k_is); (case l36 => k_is); (case c36 => k_is); (case k36 => k_is)
    (case a37 => k_is); (case l37 => k_is); (case c37 => k_is); (case k37 => k_is)
    (case a38 => k_is); (case l38 => k_is); (case c38 => k_is); (case k38 => k_is)
    (case a39 => k_is); (case l39 => k_is); (case c39 => k_is); (case k39 => k_is)
    (case a40 => k_is); (case l40 => k_is); (case c40 => k_is); (case k40 => k_is)
    (case z_len => k_is); (case z_sum => k_is); (case z_min => k_is); (case z_max => k_is); (case z_all => k_is); (case z_range => k_is); (case z_zip => k_is); (case z_enumerate => k_is); (case z_isinstance => k_is); (case z_int => k_is); (case z_bool => k_is); (case z_tuple => k_is); (case z_str => k_is); (case z_list => k_is); (case z_dict => k_is); (case z_set => k_is); (case z_sorted => k_is); (case z_divmod => k_is)
#print axioms PySem.Challenge.cw_blindtill_k27_whole_rights_behind_safe_p_holds
