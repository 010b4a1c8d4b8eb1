import PyProof.Rows.All
import Wide.All
import OpenK.AllK
import Wide.FinOn
import PySem.Challenge.RW_holdsfailsopen_k35_whole_zones_by_least
import HandS.ForMost
import HandS.Evl
import HandS.DictTup
import HandS.TupAny
import HandS.TupMul
import HandS.Style
import HandS.IsInst
import HandS.Zip
import HandS.Star
import HandS.Wide
import HandS.WideBits
import HandS.Conv
import HandS.Small
import HandS.TupLe
import KE.KDictKeyed
import KE.KDictItemsList
import PyProof.Draws
import HandS.DictEq
import KE.GoesMore
import HandS.Walk
set_option Elab.async false
set_option linter.all false
namespace Zm
/-- a bound: none is no bound; (n, true): n or less; (n, false): less than n -/
abbrev B := Option (Int × Bool)
abbrev Sq := Nat → Nat → B

def both : B → B → B
  | some x, some y => some (x.1 + y.1, x.2 && y.2)
  | _, _ => none
def less : B → B → Bool
  | some x, some y => decide (x.1 < y.1) || (decide (x.1 = y.1) && (y.2 && !x.2))
  | some _, none => true
  | none, _ => false
def enc : B → Int
  | none => 1000000
  | some x => 2 * x.1 + (if x.2 then 1 else 0)
/-- le a b: a is as tight as b, or tighter -/
def le (a b : B) : Prop := less b a = false
def nil : B := some (0, true)

theorem less_iff {x y : Int × Bool} : less (some x) (some y) = true ↔ enc (some x) < enc (some y) := by
  obtain ⟨a, p⟩ := x
  obtain ⟨b, q⟩ := y
  cases p <;> cases q <;> simp [less, enc] <;> omega
theorem le_some {x y : Int × Bool} : le (some x) (some y) ↔ enc (some x) ≤ enc (some y) := by
  unfold le
  rw [Bool.eq_false_iff, Ne, less_iff]
  omega
theorem le_none (a : B) : le a none := by cases a <;> rfl
theorem not_none_le {x : Int × Bool} : ¬ le none (some x) := by
  unfold le
  simp [less]
theorem le_refl (a : B) : le a a := by
  cases a with
  | none => rfl
  | some x => exact le_some.mpr (Int.le_refl _)
theorem le_trans {a b c : B} (h : le a b) (g : le b c) : le a c := by
  cases c with
  | none => exact le_none a
  | some z =>
    cases b with
    | none => exact absurd g not_none_le
    | some y =>
      cases a with
      | none => exact absurd h not_none_le
      | some x => exact le_some.mpr (Int.le_trans (le_some.mp h) (le_some.mp g))
theorem le_of_less {a b : B} (h : less a b = true) : le a b := by
  cases a with
  | none => simp [less] at h
  | some x =>
    cases b with
    | none => exact le_none _
    | some y => exact le_some.mpr (Int.le_of_lt (less_iff.mp h))
theorem le_total (a b : B) : le a b ∨ le b a := by
  cases h : less b a with
  | false => exact .inl h
  | true => exact .inr (le_of_less h)
theorem enc_inj {x y : Int × Bool} (h : enc (some x) = enc (some y)) : x = y := by
  obtain ⟨a, p⟩ := x
  obtain ⟨b, q⟩ := y
  cases p <;> cases q <;> simp [enc] at h ⊢ <;> omega
theorem le_antisymm {a b : B} (h : le a b) (g : le b a) : a = b := by
  cases a with
  | none =>
    cases b with
    | none => rfl
    | some y => exact absurd h not_none_le
  | some x =>
    cases b with
    | none => exact absurd g not_none_le
    | some y => rw [enc_inj (Int.le_antisymm (le_some.mp h) (le_some.mp g))]
theorem both_none_r (a : B) : both a none = none := by cases a <;> rfl
theorem both_none_l (a : B) : both none a = none := by cases a <;> rfl
theorem both_mono {a b c d : B} (h : le a c) (g : le b d) : le (both a b) (both c d) := by
  cases c with
  | none =>
    rw [both_none_l]
    exact le_none _
  | some z =>
    cases d with
    | none =>
      rw [both_none_r]
      exact le_none _
    | some w =>
      cases a with
      | none => exact absurd h not_none_le
      | some x =>
        cases b with
        | none => exact absurd g not_none_le
        | some y =>
          obtain ⟨a1, p⟩ := x
          obtain ⟨b1, q⟩ := y
          obtain ⟨c1, r⟩ := z
          obtain ⟨d1, t⟩ := w
          have h := le_some.mp h
          have g := le_some.mp g
          refine le_some.mpr ?_
          revert h g
          cases p <;> cases q <;> cases r <;> cases t <;> simp [enc] <;> omega
theorem both_assoc (a b c : B) : both (both a b) c = both a (both b c) := by
  cases a <;> cases b <;> cases c <;> simp [both, Int.add_assoc, Bool.and_assoc]
theorem both_nil_r (a : B) : both a nil = a := by cases a <;> simp [both, nil]
theorem both_nil_l (a : B) : both nil a = a := by cases a <;> simp [both, nil]
/-- behind something that is not below nought -/
theorem le_both_r {a d : B} (h : le nil d) : le a (both a d) := by
  have g := both_mono (le_refl a) h
  rw [both_nil_r] at g
  exact g
theorem le_both_l {a d : B} (h : le nil d) : le a (both d a) := by
  have g := both_mono h (le_refl a)
  rw [both_nil_l] at g
  exact g

/-! ### the rounds -/
def put (S : Sq) (i j : Nat) (v : B) : Sq := fun a b => if a = i ∧ b = j then v else S a b
theorem put_same {S : Sq} {i j : Nat} {v : B} : put S i j v i j = v := by
  unfold put
  rw [if_pos ⟨rfl, rfl⟩]
theorem put_ne {S : Sq} {i j a b : Nat} {v : B} (h : ¬ (a = i ∧ b = j)) : put S i j v a b = S a b := by
  unfold put
  rw [if_neg h]
def step (k i j : Nat) (S : Sq) : Sq := if less (both (S i k) (S k j)) (S i j) = true then put S i j (both (S i k) (S k j)) else S
def cols (k i : Nat) : Nat → Sq → Sq
  | 0, S => S
  | m + 1, S => step k i m (cols k i m S)
def rows (n k : Nat) : Nat → Sq → Sq
  | 0, S => S
  | m + 1, S => cols k m n (rows n k m S)
def mids (n : Nat) : Nat → Sq → Sq
  | 0, S => S
  | m + 1, S => rows n m n (mids n m S)
def fw (n : Nat) (S : Sq) : Sq := mids n n S
def neg (n : Nat) (S : Sq) : Bool := (List.range n).any fun i => less (S i i) nil

/-- all entries as tight, or tighter -/
def Le (S T : Sq) : Prop := ∀ i j, le (S i j) (T i j)
theorem Le.refl (S : Sq) : Le S S := fun _ _ => le_refl _
theorem Le.trans {S T U : Sq} (h : Le S T) (g : Le T U) : Le S U := fun i j => le_trans (h i j) (g i j)
theorem step_le (k i j : Nat) (S : Sq) : Le (step k i j S) S := fun a b => by
  unfold step
  by_cases h : less (both (S i k) (S k j)) (S i j) = true
  · rw [if_pos h]
    by_cases e : a = i ∧ b = j
    · obtain ⟨rfl, rfl⟩ := e
      rw [put_same]
      exact le_of_less h
    · rw [put_ne e]
      exact le_refl _
  · rw [if_neg h]
    exact le_refl _
theorem cols_le (k i : Nat) : ∀ (m : Nat) (S : Sq), Le (cols k i m S) S
  | 0, S => Le.refl S
  | m + 1, S => Le.trans (step_le k i m _) (cols_le k i m S)
theorem rows_le (n k : Nat) : ∀ (m : Nat) (S : Sq), Le (rows n k m S) S
  | 0, S => Le.refl S
  | m + 1, S => Le.trans (cols_le k m n _) (rows_le n k m S)
theorem mids_le (n : Nat) : ∀ (m : Nat) (S : Sq), Le (mids n m S) S
  | 0, S => Le.refl S
  | m + 1, S => Le.trans (rows_le n m n _) (mids_le n m S)
theorem fw_le (n : Nat) (S : Sq) : Le (fw n S) S := mids_le n n S

/-! ### a property that each step keeps -/
theorem cols_keep {P : Sq → Prop} {k i n : Nat} (h : ∀ j S, j < n → P S → P (step k i j S)) : ∀ (m : Nat) (S : Sq), m ≤ n → P S → P (cols k i m S)
  | 0, S, _, p => p
  | m + 1, S, hm, p => h m _ (by omega) (cols_keep h m S (by omega) p)
theorem rows_keep {P : Sq → Prop} {k n : Nat} (h : ∀ i j S, i < n → j < n → P S → P (step k i j S)) : ∀ (m : Nat) (S : Sq), m ≤ n → P S → P (rows n k m S)
  | 0, S, _, p => p
  | m + 1, S, hm, p => cols_keep (n := n) (fun j S hj => h m j S (by omega) hj) n _ (Nat.le_refl n) (rows_keep h m S (by omega) p)
theorem mids_keep {P : Sq → Prop} {n : Nat} (h : ∀ k i j S, k < n → i < n → j < n → P S → P (step k i j S)) : ∀ (m : Nat) (S : Sq), m ≤ n → P S → P (mids n m S)
  | 0, S, _, p => p
  | m + 1, S, hm, p => rows_keep (n := n) (fun i j S hi hj => h m i j S (by omega) hi hj) n _ (Nat.le_refl n) (mids_keep h m S (by omega) p)
theorem fw_keep {P : Sq → Prop} {n : Nat} (h : ∀ k i j S, k < n → i < n → j < n → P S → P (step k i j S)) {S : Sq} (p : P S) : P (fw n S) := mids_keep h n S (Nat.le_refl n) p

/-! ### a round at a place that is not below nought: all at once -/
def round (k : Nat) (S : Sq) (i j : Nat) : B := if less (both (S i k) (S k j)) (S i j) = true then both (S i k) (S k j) else S i j
/-- rows and columns of k stay -/
theorem round_row {k j : Nat} {S : Sq} (h : le nil (S k k)) : round k S k j = S k j := by
  unfold round
  have g : le (S k j) (both (S k k) (S k j)) := le_both_l h
  unfold le at g
  rw [g, if_neg Bool.false_ne_true]
theorem round_col {k i : Nat} {S : Sq} (h : le nil (S k k)) : round k S i k = S i k := by
  unfold round
  have g : le (S i k) (both (S i k) (S k k)) := le_both_r h
  unfold le at g
  rw [g, if_neg Bool.false_ne_true]
theorem cols_round {k i : Nat} {S0 : Sq} (h : le nil (S0 k k)) : ∀ (m : Nat) (S : Sq), (∀ a b, (a = k ∨ b = k) → S a b = S0 a b) → (∀ b, S i b = S0 i b) →
    (∀ a b, a ≠ i → cols k i m S a b = S a b) ∧ (∀ b, cols k i m S i b = if b < m then round k S0 i b else S0 i b) ∧ (∀ a b, (a = k ∨ b = k) → cols k i m S a b = S0 a b)
  | 0, S, h1, h2 => ⟨fun _ _ _ => rfl, fun b => by
      rw [if_neg (Nat.not_lt_zero b)]
      exact h2 b, h1⟩
  | m + 1, S, h1, h2 => by
    obtain ⟨g1, g2, g3⟩ := cols_round h m S h1 h2
    have e1 : cols k i m S i k = S0 i k := g3 i k (.inr rfl)
    have e2 : cols k i m S k m = S0 k m := g3 k m (.inl rfl)
    have e3 : cols k i m S i m = S0 i m := by
      rw [g2 m, if_neg (Nat.lt_irrefl m)]
    have es : ∀ a b, cols k i (m + 1) S a b = if a = i ∧ b = m then round k S0 i m else cols k i m S a b := fun a b => by
      show step k i m (cols k i m S) a b = _
      unfold step round
      rw [e1, e2, e3]
      by_cases q : less (both (S0 i k) (S0 k m)) (S0 i m) = true
      · rw [if_pos q, if_pos q]
        rfl
      · rw [if_neg q, if_neg q]
        by_cases e : a = i ∧ b = m
        · rw [if_pos e, e.1, e.2, e3]
        · rw [if_neg e]
    refine ⟨fun a b ha => ?_, fun b => ?_, fun a b hab => ?_⟩
    · rw [es, if_neg (fun q => ha q.1)]
      exact g1 a b ha
    · rw [es]
      by_cases e : b = m
      · rw [if_pos ⟨rfl, e⟩, if_pos (by omega), e]
      · rw [if_neg (fun q => e q.2), g2 b]
        by_cases q : b < m
        · rw [if_pos q, if_pos (by omega)]
        · rw [if_neg q, if_neg (by omega)]
    · rw [es]
      by_cases e : a = i ∧ b = m
      · rw [if_pos e]
        obtain ⟨rfl, rfl⟩ := e
        rcases hab with e | e
        · rw [e]
          exact round_row h
        · rw [e]
          exact round_col h
      · rw [if_neg e]
        exact g3 a b hab
theorem rows_round {n k : Nat} {S0 : Sq} (h : le nil (S0 k k)) : ∀ (m : Nat), (∀ a b, rows n k m S0 a b = if a < m ∧ b < n then round k S0 a b else S0 a b)
  | 0 => fun a b => by
    rw [if_neg (fun q => Nat.not_lt_zero a q.1)]
    rfl
  | m + 1 => fun a b => by
    have ih := rows_round (n := n) h m
    have i1 : ∀ a b, (a = k ∨ b = k) → rows n k m S0 a b = S0 a b := fun a b hab => by
      rw [ih]
      by_cases q : a < m ∧ b < n
      · rw [if_pos q]
        rcases hab with e | e
        · rw [e]
          exact round_row h
        · rw [e]
          exact round_col h
      · rw [if_neg q]
    have i2 : ∀ b, rows n k m S0 m b = S0 m b := fun b => by
      rw [ih, if_neg (fun q => Nat.lt_irrefl m q.1)]
    obtain ⟨g1, g2, g3⟩ := cols_round (i := m) h n (rows n k m S0) i1 i2
    show cols k m n (rows n k m S0) a b = _
    by_cases e : a = m
    · subst e
      rw [g2 b]
      by_cases q : b < n
      · rw [if_pos q, if_pos ⟨by omega, q⟩]
      · rw [if_neg q, if_neg (fun z => q z.2)]
    · rw [g1 a b e, ih]
      by_cases q : a < m ∧ b < n
      · rw [if_pos q, if_pos ⟨by omega, q.2⟩]
      · rw [if_neg q, if_neg (fun z => q ⟨by omega, z.2⟩)]

/-! ### closed: no two bounds together are tighter than the one -/
def Clo (n : Nat) (S : Sq) : Prop := ∀ i j m, i < n → j < n → m < n → le (S i j) (both (S i m) (S m j))
def CloTo (n k : Nat) (S : Sq) : Prop := ∀ i j m, i < n → j < n → m < n → m < k → le (S i j) (both (S i m) (S m j))
def NonNeg (n : Nat) (S : Sq) : Prop := ∀ i, i < n → le nil (S i i)
theorem neg_iff {n : Nat} {S : Sq} : neg n S = false ↔ NonNeg n S := by
  unfold neg NonNeg le
  rw [List.any_eq_false]
  constructor
  · intro h i hi
    have := h i (List.mem_range.mpr hi)
    simpa using this
  · intro h i hi
    have := h i (List.mem_range.mp hi)
    simpa using this
theorem NonNeg.mono {n : Nat} {S T : Sq} (h : NonNeg n S) (l : Le S T) : NonNeg n T := fun i hi => le_trans (h i hi) (l i i)
theorem round_eq_min {k i j : Nat} {S : Sq} : le (round k S i j) (S i j) ∧ le (round k S i j) (both (S i k) (S k j)) ∧ (round k S i j = S i j ∨ round k S i j = both (S i k) (S k j)) := by
  unfold round
  by_cases q : less (both (S i k) (S k j)) (S i j) = true
  · rw [if_pos q]
    exact ⟨le_of_less q, le_refl _, .inr rfl⟩
  · rw [if_neg q]
    exact ⟨le_refl _, by simpa [le] using q, .inl rfl⟩
theorem clo_round {n k : Nat} {S : Sq} (hk : k < n) (h : le nil (S k k)) (c : CloTo n k S) : CloTo n (k + 1) (rows n k n S) := by
  intro i j m hi hj hm hmk
  have e := rows_round (n := n) h n
  rw [e i j, e i m, e m j, if_pos ⟨hi, hj⟩, if_pos ⟨hi, hm⟩, if_pos ⟨hm, hj⟩]
  by_cases q : m = k
  · subst q
    rw [round_col h, round_row h]
    exact round_eq_min.2.1
  · have hmk' : m < k := by omega
    have top : le (round k S i j) (S i j) := round_eq_min.1
    have thr : le (round k S i j) (both (S i k) (S k j)) := round_eq_min.2.1
    have c1 : ∀ a b, a < n → b < n → le (S a b) (both (S a m) (S m b)) := fun a b ha hb => c a b m ha hb hm hmk'
    rcases (round_eq_min (k := k) (i := i) (j := m) (S := S)).2.2 with e1 | e1 <;> rcases (round_eq_min (k := k) (i := m) (j := j) (S := S)).2.2 with e2 | e2 <;> rw [e1, e2]
    · exact le_trans top (c1 i j hi hj)
    · have g := both_mono (c1 i k hi hk) (le_refl (S k j))
      rw [both_assoc] at g
      exact le_trans thr g
    · have g := both_mono (le_refl (S i k)) (c1 k j hk hj)
      rw [← both_assoc] at g
      exact le_trans thr g
    · -- S i k, S k m, S m k, S k j
      have g1 : le nil (both (S k m) (S m k)) := le_trans h (c1 k k hk hk)
      have g2 : le (S k j) (both (both (S k m) (S m k)) (S k j)) := le_both_l g1
      have g3 := both_mono (le_refl (S i k)) g2
      refine le_trans thr (le_trans g3 ?_)
      rw [both_assoc, both_assoc]
      exact le_refl _
theorem clo_mids {n : Nat} {S : Sq} : ∀ (m : Nat), m ≤ n → NonNeg n (mids n m S) → CloTo n m (mids n m S)
  | 0, _, _ => fun _ _ m _ _ _ hm => absurd hm (Nat.not_lt_zero m)
  | m + 1, hm, h => by
    have h' : NonNeg n (mids n m S) := h.mono (rows_le n m n _)
    exact clo_round (by omega) (h' m (by omega)) (clo_mids m (by omega) h')
/-- what comes of the rounds is closed, if nothing is below nought -/
theorem fw_clo {n : Nat} {S : Sq} (h : NonNeg n (fw n S)) : Clo n (fw n S) := fun i j m hi hj hm => clo_mids n (Nat.le_refl n) h i j m hi hj hm hm
/-- a closed square stays -/
theorem step_clo {n k i j : Nat} {S : Sq} (c : Clo n S) (hk : k < n) (hi : i < n) (hj : j < n) : step k i j S = S := by
  unfold step
  have h := c i j k hi hj hk
  unfold le at h
  rw [h, if_neg Bool.false_ne_true]
theorem fw_of_clo {n : Nat} {S : Sq} (c : Clo n S) : fw n S = S := fw_keep (P := fun T => T = S) (fun k i j T hk hi hj e => by
  subst e
  exact step_clo c hk hi hj) rfl
/-- and what the rounds leave as it is, is closed, if nothing is below nought -/
theorem clo_of_fw {n : Nat} {S : Sq} (e : ∀ i j, i < n → j < n → fw n S i j = S i j) (h : NonNeg n S) : Clo n S := by
  have h' : NonNeg n (fw n S) := fun i hi => by
    rw [e i i hi hi]
    exact h i hi
  intro i j m hi hj hm
  have := fw_clo h' i j m hi hj hm
  rw [e i j hi hj, e i m hi hm, e m j hm hj] at this
  exact this
end Zm
set_option Elab.async false
set_option linter.all false
namespace Zm
/-! ### numbers alone -/
theorem num_le {x y : Int × Bool} (h : le (some x) (some y)) : x.1 ≤ y.1 := by
  have g := le_some.mp h
  obtain ⟨a, p⟩ := x
  obtain ⟨b, q⟩ := y
  revert g
  cases p <;> cases q <;> simp [enc] <;> omega
theorem fin_of_le {a : B} {y : Int × Bool} (h : le a (some y)) : ∃ x, a = some x ∧ x.1 ≤ y.1 := by
  cases a with
  | none => exact absurd h not_none_le
  | some x => exact ⟨x, rfl, num_le h⟩
/-- numbers that keep all bounds, as if all could be reached -/
def NumSat (n : Nat) (w : Nat → Int) (S : Sq) : Prop := ∀ i j, i < n → j < n → ∀ x, S i j = some x → w i - w j ≤ x.1
theorem numSat_step {n k i j : Nat} {w : Nat → Int} {S : Sq} (hk : k < n) (hi : i < n) (hj : j < n) (h : NumSat n w S) : NumSat n w (step k i j S) := by
  intro a b ha hb x hx
  unfold step at hx
  by_cases q : less (both (S i k) (S k j)) (S i j) = true
  · rw [if_pos q] at hx
    by_cases e : a = i ∧ b = j
    · obtain ⟨rfl, rfl⟩ := e
      rw [put_same] at hx
      cases h1 : S a k with
      | none =>
        rw [h1, both_none_l] at hx
        cases hx
      | some y =>
        cases h2 : S k b with
        | none =>
          rw [h2, both_none_r] at hx
          cases hx
        | some z =>
          rw [h1, h2] at hx
          have e : (y.1 + z.1, y.2 && z.2) = x := Option.some.inj hx
          have g1 := h a k ha hk y h1
          have g2 := h k b hk hb z h2
          rw [← e]
          show w a - w b ≤ y.1 + z.1
          omega
    · rw [put_ne e] at hx
      exact h a b ha hb x hx
  · rw [if_neg q] at hx
    exact h a b ha hb x hx
theorem numSat_fw {n : Nat} {w : Nat → Int} {S : Sq} (h : NumSat n w S) : NumSat n w (fw n S) := fw_keep (P := NumSat n w) (fun _ _ _ _ hk hi hj => numSat_step hk hi hj) h

/-! ### how great numbers become on the way -/
def Up (c : Int) (n : Nat) (S : Sq) : Prop := ∀ i j, i < n → j < n → ∀ x, S i j = some x → x.1 ≤ c
structure RowUp (c : Int) (n k : Nat) (S : Sq) : Prop where
  all : Up (2 * c) n S
  row : ∀ b, b < n → ∀ x, S k b = some x → x.1 ≤ c
  col : ∀ a, a < n → ∀ x, S a k = some x → x.1 ≤ c
theorem both_up {a b : B} {c d : Int} (ha : ∀ x, a = some x → x.1 ≤ c) (hb : ∀ x, b = some x → x.1 ≤ d) : ∀ x, both a b = some x → x.1 ≤ c + d := by
  intro x hx
  cases a with
  | none =>
    rw [both_none_l] at hx
    cases hx
  | some y =>
    cases b with
    | none =>
      rw [both_none_r] at hx
      cases hx
    | some z =>
      have e : (y.1 + z.1, y.2 && z.2) = x := Option.some.inj hx
      have h1 := ha y rfl
      have h2 := hb z rfl
      rw [← e]
      show y.1 + z.1 ≤ c + d
      omega
theorem le_up {a b : B} {c : Int} (h : le a b) (hb : ∀ x, b = some x → x.1 ≤ c) (hn : b = none → a = none) : ∀ x, a = some x → x.1 ≤ c := by
  intro x hx
  cases b with
  | none =>
    rw [hn rfl] at hx
    cases hx
  | some y =>
    rw [hx] at h
    exact Int.le_trans (num_le h) (hb y rfl)
theorem rowUp_step {c : Int} {n k i j : Nat} {S : Sq} (hk : k < n) (hi : i < n) (hj : j < n) (hc : 0 ≤ c) (h : RowUp c n k S) : RowUp c n k (step k i j S) := by
  have hs : ∀ x, both (S i k) (S k j) = some x → x.1 ≤ c + c := both_up (h.col i hi) (h.row j hj)
  have hl := step_le k i j S
  have key : ∀ a b, step k i j S a b = S a b ∨ (a = i ∧ b = j ∧ step k i j S a b = both (S i k) (S k j)) := fun a b => by
    unfold step
    by_cases q : less (both (S i k) (S k j)) (S i j) = true
    · rw [if_pos q]
      by_cases e : a = i ∧ b = j
      · rw [e.1, e.2, put_same]
        exact .inr ⟨rfl, rfl, rfl⟩
      · rw [put_ne e]
        exact .inl rfl
    · rw [if_neg q]
      exact .inl rfl
  refine ⟨fun a b ha hb x hx => ?_, fun b hb => ?_, fun a ha => ?_⟩
  · rcases key a b with e | ⟨_, _, e⟩
    · rw [e] at hx
      exact h.all a b ha hb x hx
    · rw [e] at hx
      have := hs x hx
      omega
  · refine le_up (hl k b) (h.row b hb) fun hn => ?_
    rcases key k b with e | ⟨e1, e2, e⟩
    · rw [e, hn]
    · rw [e, ← e2, hn, both_none_r]
  · refine le_up (hl a k) (h.col a ha) fun hn => ?_
    rcases key a k with e | ⟨e1, e2, e⟩
    · rw [e, hn]
    · rw [e, ← e1, hn, both_none_l]
theorem rowUp_of {c : Int} {n k : Nat} {S : Sq} (hk : k < n) (hc : 0 ≤ c) (h : Up c n S) : RowUp c n k S :=
  ⟨fun a b ha hb x hx => by have := h a b ha hb x hx; omega, fun b hb => h k b hk hb, fun a ha => h a k ha hk⟩
theorem up_rows {c : Int} {n k : Nat} {S : Sq} (hk : k < n) (hc : 0 ≤ c) (h : Up c n S) (m : Nat) (hm : m ≤ n) : RowUp c n k (rows n k m S) :=
  rows_keep (P := RowUp c n k) (n := n) (fun i j T hi hj => rowUp_step hk hi hj hc) m S hm (rowUp_of hk hc h)
theorem up_mids {c : Int} {n : Nat} {S : Sq} (hc : 0 ≤ c) (h : Up c n S) : ∀ (m : Nat), m ≤ n → Up (2 ^ m * c) n (mids n m S)
  | 0, _ => fun i j hi hj x hx => by
    have := h i j hi hj x hx
    simpa using this
  | m + 1, hm => by
    have ih := up_mids hc h m (by omega)
    have hp : (0 : Int) ≤ 2 ^ m * c := Int.mul_nonneg (Int.pow_nonneg (by decide)) hc
    have g := (up_rows (k := m) (by omega) hp ih n (Nat.le_refl n)).all
    have e : (2 : Int) * (2 ^ m * c) = 2 ^ (m + 1) * c := by rw [Int.pow_succ, Int.mul_comm (2 ^ m) 2, Int.mul_assoc]
    rw [e] at g
    exact g
/-- the square ahead of the step at k, i, j -/
def at3 (n k i j : Nat) (S : Sq) : Sq := cols k i j (rows n k i (mids n k S))
theorem up_at {n k i j : Nat} {S : Sq} (hn : n ≤ 4) (hk : k < n) (hi : i < n) (hj : j < n) (h : Up 1000 n S) : ∀ x, both (at3 n k i j S i k) (at3 n k i j S k j) = some x → x.1 ≤ 16000 := by
  intro x hx
  have h1 := up_mids (by decide) h k (by omega)
  have hp : (0 : Int) ≤ 2 ^ k * 1000 := Int.mul_nonneg (Int.pow_nonneg (by decide)) (by decide)
  have h2 := up_rows (k := k) hk hp h1 i (by omega)
  have h3 : RowUp (2 ^ k * 1000) n k (at3 n k i j S) := cols_keep (P := RowUp (2 ^ k * 1000) n k) (n := n) (fun b T hb => rowUp_step hk hi hb hp) j _ (by omega) h2
  have h4 := both_up (h3.col i hi) (h3.row j hj) x hx
  have hk4 : k = 0 ∨ k = 1 ∨ k = 2 ∨ k = 3 := by omega
  rcases hk4 with rfl | rfl | rfl | rfl <;> simp at h4 <;> omega
theorem up_fw {n : Nat} {S : Sq} (hn : n ≤ 4) (h : Up 1000 n S) : Up 16000 n (fw n S) := fun i j hi hj x hx => by
  have h1 := up_mids (by decide) h n (Nat.le_refl n) i j hi hj x hx
  have hn4 : n = 1 ∨ n = 2 ∨ n = 3 ∨ n = 4 := by omega
  rcases hn4 with rfl | rfl | rfl | rfl <;> simp at h1 <;> omega

/-! ### guards -/
/-- a bound at a place -/
structure Edge where
  i : Nat
  j : Nat
  b : Int × Bool
def gmin (S : Sq) (e : Edge) : Sq := if less (some e.b) (S e.i e.j) = true then put S e.i e.j (some e.b) else S
def gall (S : Sq) (es : List Edge) : Sq := es.foldl gmin S
theorem gmin_glb {S : Sq} {e : Edge} {x : B} {a b : Nat} : le x (gmin S e a b) ↔ le x (S a b) ∧ (a = e.i → b = e.j → le x (some e.b)) := by
  unfold gmin
  by_cases q : less (some e.b) (S e.i e.j) = true
  · rw [if_pos q]
    by_cases z : a = e.i ∧ b = e.j
    · obtain ⟨rfl, rfl⟩ := z
      rw [put_same]
      exact ⟨fun h => ⟨le_trans h (le_of_less q), fun _ _ => h⟩, fun h => h.2 rfl rfl⟩
    · rw [put_ne z]
      exact ⟨fun h => ⟨h, fun u v => absurd ⟨u, v⟩ z⟩, fun h => h.1⟩
  · rw [if_neg q]
    refine ⟨fun h => ⟨h, fun u v => ?_⟩, fun h => h.1⟩
    subst u
    subst v
    exact le_trans h (by simpa [le] using q)
theorem gall_glb : ∀ {es : List Edge} {S : Sq} {x : B} {a b : Nat}, le x (gall S es a b) ↔ le x (S a b) ∧ ∀ e ∈ es, a = e.i → b = e.j → le x (some e.b)
  | [], S, x, a, b => ⟨fun h => ⟨h, fun e he => by simp at he⟩, fun h => h.1⟩
  | e :: es, S, x, a, b => by
    show le x (gall (gmin S e) es a b) ↔ _
    rw [gall_glb, gmin_glb]
    constructor
    · rintro ⟨⟨h1, h2⟩, h3⟩
      refine ⟨h1, fun f hf => ?_⟩
      rcases List.mem_cons.mp hf with rfl | hf
      · exact h2
      · exact h3 f hf
    · rintro ⟨h1, h2⟩
      exact ⟨⟨h1, h2 e (List.mem_cons_self ..)⟩, fun f hf => h2 f (List.mem_cons_of_mem _ hf)⟩
theorem gall_le (S : Sq) (es : List Edge) : Le (gall S es) S := fun i j => (gall_glb.mp (le_refl _)).1
theorem gall_edge {S : Sq} {es : List Edge} {e : Edge} (h : e ∈ es) : le (gall S es e.i e.j) (some e.b) := (gall_glb.mp (le_refl _)).2 e h rfl rfl
theorem gall_perm {S : Sq} {es fs : List Edge} (h : ∀ e, e ∈ es ↔ e ∈ fs) : gall S es = gall S fs := by
  funext i j
  refine le_antisymm (gall_glb.mpr ⟨gall_le S es i j, fun e he u v => ?_⟩) (gall_glb.mpr ⟨gall_le S fs i j, fun e he u v => ?_⟩)
  · rw [u, v]
    exact gall_edge ((h e).mpr he)
  · rw [u, v]
    exact gall_edge ((h e).mp he)
theorem gall_same {S : Sq} {es : List Edge} (h : ∀ e ∈ es, le (S e.i e.j) (some e.b)) : gall S es = S := by
  funext i j
  exact le_antisymm (gall_le S es i j) (gall_glb.mpr ⟨le_refl _, fun e he u v => by rw [u, v]; exact h e he⟩)
theorem gall_cases : ∀ {es : List Edge} {S : Sq} {a b : Nat}, gall S es a b = S a b ∨ ∃ e ∈ es, a = e.i ∧ b = e.j ∧ gall S es a b = some e.b
  | [], S, a, b => .inl rfl
  | e :: es, S, a, b => by
    rcases gall_cases (es := es) (S := gmin S e) (a := a) (b := b) with h | ⟨f, hf, h1, h2, h3⟩
    · have h' : gall S (e :: es) a b = gmin S e a b := h
      unfold gmin at h'
      by_cases q : less (some e.b) (S e.i e.j) = true
      · rw [if_pos q] at h'
        by_cases z : a = e.i ∧ b = e.j
        · refine .inr ⟨e, List.mem_cons_self .., z.1, z.2, ?_⟩
          rw [h', z.1, z.2, put_same]
        · rw [put_ne z] at h'
          exact .inl h'
      · rw [if_neg q] at h'
        exact .inl h'
    · exact .inr ⟨f, List.mem_cons_of_mem _ hf, h1, h2, h3⟩
/-- a bound of one clock, of at most 12 -/
def EdgeOk (n : Nat) (e : Edge) : Prop := (e.j = 0 ∧ 1 ≤ e.i ∧ e.i < n ∧ 0 ≤ e.b.1 ∧ e.b.1 ≤ 12) ∨ (e.i = 0 ∧ 1 ≤ e.j ∧ e.j < n ∧ -12 ≤ e.b.1 ∧ e.b.1 ≤ 0)

/-! ### zones -/
structure Zn (n : Nat) (U : Int) (S : Sq) : Prop where
  diag : ∀ i, i < n → S i i = nil
  row : ∀ j, j < n → le (S 0 j) nil
  clo : Clo n S
  bd : ∀ i j, i < n → j < n → ∀ x, S i j = some x → -U ≤ x.1 ∧ x.1 ≤ U
theorem Zn.mono {n : Nat} {U V : Int} {S : Sq} (h : Zn n U S) (l : U ≤ V) : Zn n V S := ⟨h.diag, h.row, h.clo, fun i j hi hj x hx => by have := h.bd i j hi hj x hx; omega⟩
theorem Zn.nonneg {n : Nat} {U : Int} {S : Sq} (h : Zn n U S) : NonNeg n S := fun i hi => by
  rw [h.diag i hi]
  exact le_refl _
theorem Zn.fin {n : Nat} {U : Int} {S : Sq} (h : Zn n U S) {j : Nat} (hj : j < n) : ∃ x, S 0 j = some x ∧ x.1 ≤ 0 := fin_of_le (h.row j hj)

/-- the least of some numbers, and of one -/
def lowest (f : Nat → Option Int) : Nat → Int → Int
  | 0, d => d
  | m + 1, d => match f m with
    | some x => min x (lowest f m d)
    | none => lowest f m d
theorem lowest_le {f : Nat → Option Int} : ∀ (m : Nat) (d : Int), lowest f m d ≤ d ∧ ∀ b x, b < m → f b = some x → lowest f m d ≤ x
  | 0, d => ⟨Int.le_refl d, fun b x hb => absurd hb (Nat.not_lt_zero b)⟩
  | m + 1, d => by
    obtain ⟨h1, h2⟩ := lowest_le (f := f) m d
    cases e : f m with
    | none =>
      have e1 : lowest f (m + 1) d = lowest f m d := by simp [lowest, e]
      rw [e1]
      refine ⟨h1, fun b x hb hx => ?_⟩
      by_cases q : b = m
      · rw [q, e] at hx
        cases hx
      · exact h2 b x (by omega) hx
    | some y =>
      have e1 : lowest f (m + 1) d = min y (lowest f m d) := by simp [lowest, e]
      rw [e1]
      refine ⟨by omega, fun b x hb hx => ?_⟩
      by_cases q : b = m
      · rw [q, e] at hx
        have := Option.some.inj hx
        omega
      · have := h2 b x (by omega) hx
        omega
theorem lowest_is {f : Nat → Option Int} : ∀ (m : Nat) (d : Int), lowest f m d = d ∨ ∃ b, b < m ∧ f b = some (lowest f m d)
  | 0, d => .inl rfl
  | m + 1, d => by
    have ih := lowest_is (f := f) m d
    cases e : f m with
    | none =>
      have e1 : lowest f (m + 1) d = lowest f m d := by simp [lowest, e]
      rw [e1]
      rcases ih with h | ⟨b, hb, h⟩
      · exact .inl h
      · exact .inr ⟨b, by omega, h⟩
    | some y =>
      have e1 : lowest f (m + 1) d = min y (lowest f m d) := by simp [lowest, e]
      rw [e1]
      by_cases q : y ≤ lowest f m d
      · have e2 : min y (lowest f m d) = y := by omega
        rw [e2]
        exact .inr ⟨m, by omega, e⟩
      · have e2 : min y (lowest f m d) = lowest f m d := by omega
        rw [e2]
        rcases ih with h | ⟨b, hb, h⟩
        · exact .inl h
        · exact .inr ⟨b, by omega, h⟩
theorem clo_num {n : Nat} {S : Sq} (c : Clo n S) {i j m : Nat} (hi : i < n) (hj : j < n) (hm : m < n) {x y : Int × Bool} (h1 : S i m = some x) (h2 : S m j = some y) : ∃ z, S i j = some z ∧ z.1 ≤ x.1 + y.1 := by
  have h := c i j m hi hj hm
  rw [h1, h2] at h
  exact fin_of_le h

/-- the zone of what keeps a guard: tight, and no number farther off than 12 more -/
theorem zn_guard {n : Nat} {U : Int} {S : Sq} {es : List Edge} (z : Zn n U S) (h0 : 0 < n) (hU : 0 ≤ U) (ok : ∀ e ∈ es, EdgeOk n e) (hn : NonNeg n (fw n (gall S es))) : Zn n (U + 12) (fw n (gall S es)) := by
  have c' := fw_clo hn
  have l1 : Le (fw n (gall S es)) (gall S es) := fw_le n _
  have l2 : Le (fw n (gall S es)) S := Le.trans l1 (gall_le S es)
  have row' : ∀ j, j < n → le (fw n (gall S es) 0 j) nil := fun j hj => le_trans (l2 0 j) (z.row j hj)
  have diag' : ∀ i, i < n → fw n (gall S es) i i = nil := fun i hi => le_antisymm (by have := l2 i i; rw [z.diag i hi] at this; exact this) (hn i hi)
  have mfin : ∀ b, b < n → ∃ x, gall S es 0 b = some x ∧ x.1 ≤ 0 := fun b hb => fin_of_le (le_trans (gall_le S es 0 b) (z.row b hb))
  have mmid : ∀ i j, i ≠ 0 → j ≠ 0 → gall S es i j = S i j := fun i j hi hj => by
    rcases gall_cases (es := es) (S := S) (a := i) (b := j) with e | ⟨e, he, e1, e2, _⟩
    · exact e
    · rcases ok e he with ⟨q, _⟩ | ⟨q, _⟩
      · exact absurd (e2.trans q) hj
      · exact absurd (e1.trans q) hi
  have mrow : ∀ b, b < n → ∀ x, gall S es 0 b = some x → S 0 b = some x ∨ -12 ≤ x.1 := fun b hb x hx => by
    rcases gall_cases (es := es) (S := S) (a := 0) (b := b) with e | ⟨e, he, e1, e2, e3⟩
    · rw [← e]
      exact .inl hx
    · rw [hx] at e3
      have ex := Option.some.inj e3
      rcases ok e he with ⟨_, q, _⟩ | ⟨_, _, _, q, _⟩
      · omega
      · rw [ex]
        exact .inr q
  -- a ring of three in the least sums
  have ring : ∀ a b, a < n → b < n → ∀ x y t, gall S es 0 a = some x → gall S es a b = some y → gall S es b 0 = some t → 0 ≤ x.1 + y.1 + t.1 := fun a b ha hb x y t hx hy ht => by
    obtain ⟨x', ex, hx'⟩ := fin_of_le (show le (fw n (gall S es) 0 a) (some x) by rw [← hx]; exact l1 0 a)
    obtain ⟨y', ey, hy'⟩ := fin_of_le (show le (fw n (gall S es) a b) (some y) by rw [← hy]; exact l1 a b)
    obtain ⟨t', et, ht'⟩ := fin_of_le (show le (fw n (gall S es) b 0) (some t) by rw [← ht]; exact l1 b 0)
    obtain ⟨p, ep, hp⟩ := clo_num c' h0 hb ha ex ey
    obtain ⟨q, eq, hq⟩ := clo_num c' h0 h0 hb ep et
    rw [diag' 0 h0] at eq
    have : ((0 : Int), true) = q := Option.some.inj eq
    rw [← this] at hq
    simp at hq
    omega
  have sfin : ∀ i j y, S i j = some y → ∃ t, gall S es i j = some t ∧ t.1 ≤ y.1 := fun i j y hy => fin_of_le (by rw [← hy]; exact gall_le S es i j)
  -- the least numbers
  let f : Nat → Nat → Option Int := fun j b => match gall S es 0 b, S b j with
    | some x, some y => some (x.1 + y.1)
    | _, _ => none
  let d : Nat → Int := fun j => match gall S es 0 j with
    | some x => x.1
    | none => 0
  let A : Nat → Int := fun j => lowest (f j) n (d j)
  have fs : ∀ j b x y, gall S es 0 b = some x → S b j = some y → f j b = some (x.1 + y.1) := fun j b x y hx hy => by
    show (match gall S es 0 b, S b j with | some x, some y => some (x.1 + y.1) | _, _ => none) = some (x.1 + y.1)
    rw [hx, hy]
  have fi : ∀ j b v, f j b = some v → ∃ x y, gall S es 0 b = some x ∧ S b j = some y ∧ v = x.1 + y.1 := fun j b v hv => by
    cases hx : gall S es 0 b with
    | none =>
      simp only [f, hx] at hv
      cases hv
    | some x =>
      cases hy : S b j with
      | none =>
        simp only [f, hx, hy] at hv
        cases hv
      | some y =>
        rw [fs j b x y hx hy] at hv
        exact ⟨x, y, rfl, rfl, (Option.some.inj hv).symm⟩
  have A_is : ∀ j, j < n → ∃ b x y, b < n ∧ gall S es 0 b = some x ∧ S b j = some y ∧ A j = x.1 + y.1 := fun j hj => by
    rcases lowest_is (f := f j) n (d j) with h | ⟨b, hb, h⟩
    · obtain ⟨x, hx, _⟩ := mfin j hj
      refine ⟨j, x, (0, true), hj, hx, z.diag j hj, ?_⟩
      show lowest (f j) n (d j) = x.1 + 0
      rw [h]
      simp only [d, hx, Int.add_zero]
    · obtain ⟨x, y, hx, hy, e⟩ := fi j b _ h
      exact ⟨b, x, y, hb, hx, hy, e⟩
  have A_le : ∀ j b x y, b < n → gall S es 0 b = some x → S b j = some y → A j ≤ x.1 + y.1 := fun j b x y hb hx hy => (lowest_le (f := f j) n (d j)).2 b _ hb (fs j b x y hx hy)
  have A0 : 0 ≤ A 0 ∧ A 0 ≤ 0 := by
    obtain ⟨b, x, y, hb, hx, hy, e⟩ := A_is 0 h0
    obtain ⟨x0, hx0, hx0'⟩ := mfin 0 h0
    obtain ⟨y0, hy0, hy0'⟩ := sfin b 0 y hy
    refine ⟨?_, ?_⟩
    · obtain ⟨u, hu, hu'⟩ := sfin b b (0, true) (z.diag b hb)
      have := ring b b hb hb x u y0 hx hu hy0
      simp at hu'
      omega
    · have := A_le 0 0 x0 (0, true) h0 hx0 (z.diag 0 h0)
      simp at this
      omega
  have w : NumSat n (fun j => - A j) (gall S es) := by
    intro i j hi hj x hx
    show - A i - - A j ≤ x.1
    by_cases q0 : i = 0
    · subst q0
      have := A_le j j x (0, true) hj hx (z.diag j hj)
      simp at this
      omega
    · by_cases q1 : j = 0
      · subst q1
        obtain ⟨b, u, y, hb, hu, hy, e⟩ := A_is i hi
        obtain ⟨t, ht, ht'⟩ := sfin b i y hy
        have := ring b i hb hi u t x hu ht hx
        omega
      · rw [mmid i j q0 q1] at hx
        obtain ⟨b, u, y, hb, hu, hy, e⟩ := A_is i hi
        obtain ⟨t, ht, ht'⟩ := clo_num z.clo hb hj hi hy hx
        have := A_le j b u t hb hu ht
        omega
  have w' := numSat_fw w
  have low0 : ∀ j, j < n → ∀ x, fw n (gall S es) 0 j = some x → -(U + 12) ≤ x.1 := fun j hj x hx => by
    have h1 := w' 0 j h0 hj x hx
    have h2 : - A 0 - - A j ≤ x.1 := h1
    obtain ⟨b, u, y, hb, hu, hy, e⟩ := A_is j hj
    have hyU := (z.bd b j hb hj y hy).1
    rcases mrow b hb u hu with h3 | h3
    · obtain ⟨t, ht, ht'⟩ := clo_num z.clo h0 hj hb h3 hy
      have := (z.bd 0 j h0 hj t ht).1
      omega
    · omega
  -- which bounds come to be
  have reach : ∀ i j, i < n → j < n → fw n (gall S es) i j ≠ none → (∃ y, S i j = some y) ∨ ∃ a y t, a < n ∧ S i a = some y ∧ gall S es a 0 = some t ∧ t.1 ≤ 12 := by
    refine fw_keep (P := fun T => ∀ i j, i < n → j < n → T i j ≠ none → (∃ y, S i j = some y) ∨ ∃ a y t, a < n ∧ S i a = some y ∧ gall S es a 0 = some t ∧ t.1 ≤ 12) (fun k i j T hk hi hj h a b ha hb hT => ?_) (fun i j hi hj hT => ?_)
    · by_cases e : a = i ∧ b = j
      · obtain ⟨rfl, rfl⟩ := e
        by_cases q : less (both (T a k) (T k b)) (T a b) = true
        · have e1 : step k a b T a b = both (T a k) (T k b) := by
            unfold step
            rw [if_pos q, put_same]
          rw [e1] at hT
          have n1 : T a k ≠ none := fun z => hT (by rw [z, both_none_l])
          have n2 : T k b ≠ none := fun z => hT (by rw [z, both_none_r])
          rcases h a k ha hk n1 with ⟨y, hy⟩ | r
          · rcases h k b hk hb n2 with ⟨y2, hy2⟩ | ⟨c, y2, t, hc, hy2, ht, ht'⟩
            · obtain ⟨v, hv, _⟩ := clo_num z.clo ha hb hk hy hy2
              exact .inl ⟨v, hv⟩
            · obtain ⟨v, hv, _⟩ := clo_num z.clo ha hc hk hy hy2
              exact .inr ⟨c, v, t, hc, hv, ht, ht'⟩
          · exact .inr r
        · have e1 : step k a b T a b = T a b := by
            unfold step
            rw [if_neg q]
          rw [e1] at hT
          exact h a b ha hb hT
      · have e1 : step k i j T a b = T a b := by
          unfold step
          by_cases q : less (both (T i k) (T k j)) (T i j) = true
          · rw [if_pos q, put_ne e]
          · rw [if_neg q]
        rw [e1] at hT
        exact h a b ha hb hT
    · rcases gall_cases (es := es) (S := S) (a := i) (b := j) with e | ⟨e, he, e1, e2, e3⟩
      · rw [e] at hT
        cases hs : S i j with
        | none => exact absurd hs hT
        | some y => exact .inl ⟨y, rfl⟩
      · rcases ok e he with ⟨q, _, _, _, q2⟩ | ⟨q, _⟩
        · refine .inr ⟨i, (0, true), e.b, hi, z.diag i hi, ?_, q2⟩
          rw [show (0 : Nat) = j from (e2.trans q).symm]
          exact e3
        · rw [e1, q]
          obtain ⟨y, hy, _⟩ := z.fin hj
          exact .inl ⟨y, hy⟩
  refine ⟨diag', row', c', fun i j hi hj x hx => ⟨?_, ?_⟩⟩
  · obtain ⟨p, hp, hp'⟩ := fin_of_le (row' j hj)
    obtain ⟨q, hq, hq'⟩ := fin_of_le (row' i hi)
    obtain ⟨t, ht, ht'⟩ := clo_num c' h0 hj hi hq hx
    have := low0 j hj t ht
    simp at hq'
    omega
  · rcases reach i j hi hj (by rw [hx]; exact Option.some_ne_none x) with ⟨y, hy⟩ | ⟨a, y, t, ha, hy, ht, ht'⟩
    · obtain ⟨v, hv, hv'⟩ := fin_of_le (show le (fw n (gall S es) i j) (some y) by rw [← hy]; exact l2 i j)
      rw [hx] at hv
      have := Option.some.inj hv
      have := (z.bd i j hi hj y hy).2
      rw [← ‹x = v›] at hv'
      omega
    · obtain ⟨p, hp, hp'⟩ := fin_of_le (show le (fw n (gall S es) i a) (some y) by rw [← hy]; exact l2 i a)
      obtain ⟨q, hq, hq'⟩ := fin_of_le (show le (fw n (gall S es) a 0) (some t) by rw [← ht]; exact l1 a 0)
      obtain ⟨r, hr, hr'⟩ := fin_of_le (row' j hj)
      obtain ⟨u, hu, hu'⟩ := clo_num c' hi h0 ha hp hq
      obtain ⟨v, hv, hv'⟩ := clo_num c' hi hj h0 hu hr
      rw [hx] at hv
      have e := Option.some.inj hv
      have := (z.bd i a hi ha y hy).2
      simp at hr'
      rw [← e] at hv'
      omega
end Zm
set_option Elab.async false
set_option linter.all false
namespace Zm
/-! ### squares as lists of numbers, row by row -/
def zl (n : Nat) (S : Sq) : List Int := (List.range (n * n)).map fun p => enc (S (p / n) (p % n))
theorem zl_len (n : Nat) (S : Sq) : (zl n S).length = n * n := by
  unfold zl
  rw [List.length_map, List.length_range]
theorem place_lt {n i j : Nat} (hi : i < n) (hj : j < n) : i * n + j < n * n := by
  have h1 : (i + 1) * n ≤ n * n := Nat.mul_le_mul_right n hi
  have h2 : (i + 1) * n = i * n + n := Nat.succ_mul i n
  omega
theorem place_div {n i j : Nat} (hj : j < n) : (i * n + j) / n = i := by
  rw [Nat.add_comm, Nat.add_mul_div_right _ _ (by omega), Nat.div_eq_of_lt hj, Nat.zero_add]
theorem place_mod {n i j : Nat} (hj : j < n) : (i * n + j) % n = j := by
  rw [Nat.add_comm, Nat.add_mul_mod_self_right, Nat.mod_eq_of_lt hj]
theorem div_lt_of {n p : Nat} (h : p < n * n) : p / n < n := by
  have : 0 < n := by
    rcases Nat.eq_zero_or_pos n with e | e
    · subst e
      omega
    · exact e
  exact (Nat.div_lt_iff_lt_mul this).mpr h
theorem mod_lt_of {n p : Nat} (h : p < n * n) : p % n < n := by
  have : 0 < n := by
    rcases Nat.eq_zero_or_pos n with e | e
    · subst e
      omega
    · exact e
  exact Nat.mod_lt _ this
theorem place_of {n p : Nat} : p / n * n + p % n = p := Nat.div_add_mod' p n
theorem zl_get {n i j : Nat} {S : Sq} (hi : i < n) (hj : j < n) : (zl n S)[i * n + j]? = some (enc (S i j)) := by
  unfold zl
  rw [List.getElem?_map, List.getElem?_range (place_lt hi hj)]
  show some (enc (S ((i * n + j) / n) ((i * n + j) % n))) = _
  rw [place_div hj, place_mod hj]
theorem zl_at {n p : Nat} {S : Sq} (h : p < n * n) : (zl n S)[p]? = some (enc (S (p / n) (p % n))) := by
  unfold zl
  rw [List.getElem?_map, List.getElem?_range h]
  rfl
theorem zl_set {n i j : Nat} {S : Sq} {v : B} (hi : i < n) (hj : j < n) : (zl n S).set (i * n + j) (enc v) = zl n (put S i j v) := by
  refine List.ext_getElem? fun p => ?_
  rw [List.getElem?_set]
  by_cases hp : p < n * n
  · rw [zl_at hp]
    by_cases e : i * n + j = p
    · subst e
      rw [if_pos rfl, if_pos (by rw [zl_len]; exact hp), zl_get hi hj, put_same]
    · rw [if_neg e, zl_at hp, put_ne]
      rintro ⟨e1, e2⟩
      apply e
      rw [← e1, ← e2]
      exact place_of
  · rw [List.getElem?_eq_none (by rw [zl_len]; omega)]
    by_cases e : i * n + j = p
    · exact absurd (e ▸ place_lt hi hj) hp
    · rw [if_neg e, List.getElem?_eq_none (by rw [zl_len]; omega)]
theorem zl_congr {n : Nat} {S T : Sq} (h : ∀ i j, i < n → j < n → S i j = T i j) : zl n S = zl n T := by
  unfold zl
  refine List.map_congr_left fun p hp => ?_
  have hp := List.mem_range.mp hp
  rw [h _ _ (div_lt_of hp) (mod_lt_of hp)]
/-- the bound that a number tells -/
def dec (z : Int) : B := if z = 1000000 then none else some (z / 2, decide (z % 2 = 1))
theorem enc_dec (z : Int) : enc (dec z) = z := by
  unfold dec
  by_cases h : z = 1000000
  · rw [if_pos h, h]
    rfl
  · rw [if_neg h]
    show 2 * (z / 2) + (if decide (z % 2 = 1) = true then 1 else 0) = z
    by_cases q : z % 2 = 1
    · rw [if_pos (decide_eq_true q)]
      omega
    · rw [if_neg (by simpa using q)]
      omega
/-- what tells a bound without doubt -/
def Cl1 (b : B) : Prop := ∀ x, b = some x → enc (some x) ≠ 1000000
theorem dec_enc {b : B} (h : Cl1 b) : dec (enc b) = b := by
  cases b with
  | none => rfl
  | some x =>
    unfold dec
    rw [if_neg (h x rfl)]
    obtain ⟨a, p⟩ := x
    cases p
    · show some ((2 * a + 0) / 2, decide ((2 * a + 0) % 2 = 1)) = some (a, false)
      rw [show (2 * a + 0) / 2 = a by omega, show decide ((2 * a + 0) % 2 = 1) = false by exact decide_eq_false (by omega)]
    · show some ((2 * a + 1) / 2, decide ((2 * a + 1) % 2 = 1)) = some (a, true)
      rw [show (2 * a + 1) / 2 = a by omega, show decide ((2 * a + 1) % 2 = 1) = true by exact decide_eq_true (by omega)]
theorem enc_le (x : Int × Bool) : 2 * x.1 ≤ enc (some x) ∧ enc (some x) ≤ 2 * x.1 + 1 := by
  obtain ⟨a, p⟩ := x
  cases p <;> simp [enc] <;> omega
theorem cl_small {b : B} {c : Int} (hc : c ≤ 400000) (h : ∀ x, b = some x → x.1 ≤ c) : Cl1 b := fun x hx => by
  have h1 := h x hx
  have h2 := enc_le x
  omega
def sumE (x y : Int) : Int := if x = 1000000 ∨ y = 1000000 then 1000000 else 2 * (x / 2 + y / 2) + x % 2 * (y % 2)
theorem sumE_enc {a b : B} (ha : Cl1 a) (hb : Cl1 b) : sumE (enc a) (enc b) = enc (both a b) := by
  unfold sumE
  cases a with
  | none =>
    rw [if_pos (.inl rfl), both_none_l]
    rfl
  | some x =>
    cases b with
    | none =>
      rw [if_pos (.inr rfl), both_none_r]
      rfl
    | some y =>
      rw [if_neg (by rintro (h | h); exact ha x rfl h; exact hb y rfl h)]
      obtain ⟨a, p⟩ := x
      obtain ⟨b, q⟩ := y
      have h1 : (2 * a + 0) / 2 = a := by omega
      have h2 : (2 * a + 1) / 2 = a := by omega
      have h3 : (2 * b + 0) / 2 = b := by omega
      have h4 : (2 * b + 1) / 2 = b := by omega
      have m1 : (2 * a + 0) % 2 = 0 := by omega
      have m2 : (2 * a + 1) % 2 = 1 := by omega
      have m3 : (2 * b + 0) % 2 = 0 := by omega
      have m4 : (2 * b + 1) % 2 = 1 := by omega
      cases p <;> cases q
      · show 2 * ((2 * a + 0) / 2 + (2 * b + 0) / 2) + (2 * a + 0) % 2 * ((2 * b + 0) % 2) = 2 * (a + b) + 0
        rw [h1, h3, m1, m3]
        rfl
      · show 2 * ((2 * a + 0) / 2 + (2 * b + 1) / 2) + (2 * a + 0) % 2 * ((2 * b + 1) % 2) = 2 * (a + b) + 0
        rw [h1, h4, m1, m4]
        rfl
      · show 2 * ((2 * a + 1) / 2 + (2 * b + 0) / 2) + (2 * a + 1) % 2 * ((2 * b + 0) % 2) = 2 * (a + b) + 0
        rw [h2, h3, m2, m3]
        rfl
      · show 2 * ((2 * a + 1) / 2 + (2 * b + 1) / 2) + (2 * a + 1) % 2 * ((2 * b + 1) % 2) = 2 * (a + b) + 1
        rw [h2, h4, m2, m4]
        rfl
/-- small bounds are compared as their numbers are -/
theorem less_enc {a b : B} (ha : ∀ x, a = some x → x.1 ≤ 400000) (hb : ∀ x, b = some x → x.1 ≤ 400000) : less a b = decide (enc a < enc b) := by
  cases a with
  | none =>
    show false = _
    cases b with
    | none => rfl
    | some y =>
      have h1 := hb y rfl
      have h2 := enc_le y
      exact (decide_eq_false (by show ¬ (1000000 : Int) < enc (some y); omega)).symm
  | some x =>
    have h1 := ha x rfl
    have h2 := enc_le x
    cases b with
    | none => exact (decide_eq_true (by show enc (some x) < 1000000; omega)).symm
    | some y =>
      cases h : less (some x) (some y) with
      | true => exact (decide_eq_true (less_iff.mp h)).symm
      | false => exact (decide_eq_false (fun z => by rw [less_iff.mpr z] at h; cases h)).symm
theorem up_at_all {n k i j : Nat} {S : Sq} (hn : n ≤ 4) (hk : k < n) (hi : i < n) (hj : j < n) (h : Up 1000 n S) : Up 16000 n (at3 n k i j S) := by
  have h1 := up_mids (by decide) h k (by omega)
  have hp : (0 : Int) ≤ 2 ^ k * 1000 := Int.mul_nonneg (Int.pow_nonneg (by decide)) (by decide)
  have h2 := up_rows (k := k) hk hp h1 i (by omega)
  have h3 : RowUp (2 ^ k * 1000) n k (at3 n k i j S) := cols_keep (P := RowUp (2 ^ k * 1000) n k) (n := n) (fun b T hb => rowUp_step hk hi hb hp) j _ (by omega) h2
  intro a b ha hb x hx
  have h4 := h3.all a b ha hb x hx
  have hk4 : k = 0 ∨ k = 1 ∨ k = 2 ∨ k = 3 := by omega
  rcases hk4 with rfl | rfl | rfl | rfl <;> simp at h4 <;> omega
theorem neg_enc {n : Nat} {S : Sq} (h : Up 400000 n S) : neg n S = (List.range n).any fun i => decide (enc (S i i) < 1) := by
  unfold neg
  rw [Bool.eq_iff_iff, List.any_eq_true, List.any_eq_true]
  constructor
  · rintro ⟨i, hi, h1⟩
    refine ⟨i, hi, ?_⟩
    rw [less_enc (h i i (List.mem_range.mp hi) (List.mem_range.mp hi)) (fun x hx => by
      have e : ((0 : Int), true) = x := Option.some.inj hx
      rw [← e]
      decide)] at h1
    exact h1
  · rintro ⟨i, hi, h1⟩
    refine ⟨i, hi, ?_⟩
    rw [less_enc (h i i (List.mem_range.mp hi) (List.mem_range.mp hi)) (fun x hx => by
      have e : ((0 : Int), true) = x := Option.some.inj hx
      rw [← e]
      decide)]
    exact h1
end Zm
set_option Elab.async false
set_option linter.all false
namespace Zm
/-! ### time passes; clocks set to nought; guards as they are written -/
def latTo (m : Nat) (S : Sq) : Sq := fun i j => if j = 0 ∧ 1 ≤ i ∧ i < 1 + m then none else S i j
def lat (S : Sq) : Sq := fun i j => if j = 0 ∧ 1 ≤ i then none else S i j
theorem latTo_zero (S : Sq) : latTo 0 S = S := by
  funext i j
  unfold latTo
  rw [if_neg (by omega)]
theorem latTo_succ (m : Nat) (S : Sq) : put (latTo m S) (1 + m) 0 none = latTo (m + 1) S := by
  funext i j
  by_cases e : i = 1 + m ∧ j = 0
  · rw [e.1, e.2, put_same]
    unfold latTo
    rw [if_pos ⟨rfl, by omega, by omega⟩]
  · rw [put_ne e]
    unfold latTo
    by_cases q : j = 0 ∧ 1 ≤ i ∧ i < 1 + m
    · rw [if_pos q, if_pos ⟨q.1, q.2.1, by omega⟩]
    · rw [if_neg q, if_neg (fun z => e ⟨by omega, z.1⟩)]
theorem latTo_all {n m : Nat} (S : Sq) (h : n ≤ 1 + m) : ∀ i j, i < n → j < n → latTo m S i j = lat S i j := fun i j hi _ => by
  unfold latTo lat
  by_cases q : j = 0 ∧ 1 ≤ i
  · rw [if_pos q, if_pos ⟨q.1, q.2, by omega⟩]
  · rw [if_neg q, if_neg (fun z => q ⟨z.1, z.2.1⟩)]
/-- the clock at a set to nought -/
def sb (a : Nat) (S : Sq) : Sq := fun i j => if i = a ∧ j ≠ a then S 0 j else if j = a ∧ i ≠ a then S i 0 else S i j
def sbTo (a m : Nat) (S : Sq) : Sq := fun i j => if i = a ∧ j ≠ a ∧ j < m then S 0 j else if j = a ∧ i ≠ a ∧ i < m then S i 0 else S i j
theorem sbTo_zero (a : Nat) (S : Sq) : sbTo a 0 S = S := by
  funext i j
  unfold sbTo
  rw [if_neg (by omega), if_neg (by omega)]
theorem sbTo_same (a : Nat) (S : Sq) : sbTo a (a + 1) S = sbTo a a S := by
  funext i j
  unfold sbTo
  by_cases q : i = a ∧ j ≠ a ∧ j < a
  · rw [if_pos q, if_pos ⟨q.1, q.2.1, by omega⟩]
  · rw [if_neg q, if_neg (fun z => q ⟨z.1, z.2.1, by omega⟩)]
    by_cases r : j = a ∧ i ≠ a ∧ i < a
    · rw [if_pos r, if_pos ⟨r.1, r.2.1, by omega⟩]
    · rw [if_neg r, if_neg (fun z => r ⟨z.1, z.2.1, by omega⟩)]
theorem sbTo_row {a m : Nat} (S : Sq) (ha : 1 ≤ a) (hm : m ≠ a) : sbTo a m S 0 m = S 0 m := by
  unfold sbTo
  rw [if_neg (by omega), if_neg (by omega)]
theorem sbTo_col {a m : Nat} (S : Sq) (ha : 1 ≤ a) (hm : m ≠ a) : sbTo a m S m 0 = S m 0 := by
  unfold sbTo
  rw [if_neg (by omega), if_neg (by omega)]
theorem sbTo_succ {a m : Nat} (S : Sq) (hm : m ≠ a) : put (put (sbTo a m S) a m (S 0 m)) m a (S m 0) = sbTo a (m + 1) S := by
  funext i j
  by_cases e : i = m ∧ j = a
  · rw [e.1, e.2, put_same]
    unfold sbTo
    rw [if_neg (by omega), if_pos ⟨rfl, hm, by omega⟩]
  · rw [put_ne e]
    by_cases e2 : i = a ∧ j = m
    · rw [e2.1, e2.2, put_same]
      unfold sbTo
      rw [if_pos ⟨rfl, hm, by omega⟩]
    · rw [put_ne e2]
      unfold sbTo
      by_cases q : i = a ∧ j ≠ a ∧ j < m
      · rw [if_pos q, if_pos ⟨q.1, q.2.1, by omega⟩]
      · have q' : ¬ (i = a ∧ j ≠ a ∧ j < m + 1) := fun z => q ⟨z.1, z.2.1, by omega⟩
        rw [if_neg q, if_neg q']
        by_cases r : j = a ∧ i ≠ a ∧ i < m
        · rw [if_pos r, if_pos ⟨r.1, r.2.1, by omega⟩]
        · have r' : ¬ (j = a ∧ i ≠ a ∧ i < m + 1) := fun z => r ⟨z.1, z.2.1, by omega⟩
          rw [if_neg r, if_neg r']
theorem sbTo_all {n a : Nat} (S : Sq) : ∀ i j, i < n → j < n → sbTo a n S i j = sb a S i j := fun i j hi hj => by
  unfold sbTo sb
  by_cases q : i = a ∧ j ≠ a
  · rw [if_pos q, if_pos ⟨q.1, q.2, hj⟩]
  · rw [if_neg q, if_neg (fun z => q ⟨z.1, z.2.1⟩)]
    by_cases r : j = a ∧ i ≠ a
    · rw [if_pos r, if_pos ⟨r.1, r.2, hi⟩]
    · rw [if_neg r, if_neg (fun z => r ⟨z.1, z.2.1⟩)]
/-- one after the other -/
def sbAll (S : Sq) (ps : List Nat) : Sq := ps.foldl (fun T p => sb (p + 1) T) S
/-- a bound as it is written: a clock's place, < or <= or > or >=, a number -/
structure Gi where
  c : Nat
  up : Bool
  inc : Bool
  k : Nat
def Gi.edge (g : Gi) : Edge := if g.up then ⟨g.c + 1, 0, ((g.k : Int), g.inc)⟩ else ⟨0, g.c + 1, (-(g.k : Int), g.inc)⟩
structure GiOk (n : Nat) (g : Gi) : Prop where
  c : g.c + 1 < n
  k : g.k ≤ 12
theorem GiOk.edge {n : Nat} {g : Gi} (h : GiOk n g) : EdgeOk n g.edge := by
  obtain ⟨h1, h2⟩ := h
  unfold Gi.edge EdgeOk
  cases g.up with
  | true =>
    rw [if_pos rfl]
    exact .inl ⟨rfl, by show 1 ≤ g.c + 1; omega, h1, by show (0 : Int) ≤ (g.k : Int); omega, by show (g.k : Int) ≤ 12; omega⟩
  | false =>
    rw [if_neg Bool.false_ne_true]
    exact .inr ⟨rfl, by show 1 ≤ g.c + 1; omega, h1, by show (-12 : Int) ≤ -(g.k : Int); omega, by show -(g.k : Int) ≤ 0; omega⟩
theorem gmin_put {S : Sq} {e : Edge} (h1 : ∀ x, S e.i e.j = some x → x.1 ≤ 400000) (h2 : e.b.1 ≤ 400000) : put S e.i e.j (if enc (some e.b) < enc (S e.i e.j) then some e.b else S e.i e.j) = gmin S e := by
  have hl : less (some e.b) (S e.i e.j) = decide (enc (some e.b) < enc (S e.i e.j)) := less_enc (fun x hx => by rw [← Option.some.inj hx]; exact h2) h1
  unfold gmin
  rw [hl]
  by_cases q : enc (some e.b) < enc (S e.i e.j)
  · rw [if_pos q, if_pos (decide_eq_true q)]
  · rw [if_neg q, if_neg (by simpa using q)]
    funext a b
    by_cases z : a = e.i ∧ b = e.j
    · rw [z.1, z.2, put_same]
    · rw [put_ne z]
theorem gall_up {n : Nat} {c : Int} {S : Sq} {es : List Edge} (h : Up c n S) (hc : 12 ≤ c) (ok : ∀ e ∈ es, EdgeOk n e) : Up c n (gall S es) := fun i j hi hj x hx => by
  rcases gall_cases (es := es) (S := S) (a := i) (b := j) with e | ⟨e, he, _, _, e3⟩
  · rw [e] at hx
    exact h i j hi hj x hx
  · rw [hx] at e3
    have := Option.some.inj e3
    rw [this]
    rcases ok e he with ⟨_, _, _, _, q⟩ | ⟨_, _, _, _, q⟩ <;> omega
end Zm
set_option Elab.async false
set_option linter.all false
set_option maxRecDepth 100000
set_option maxHeartbeats 4000000
namespace Zg
open PySem PySem.Spec PyProof.Rows L2 HT
/-! ### repr of a truth -/
section
variable {X : Cx}
theorem call_repr_bool : CallR X (.builtin "repr") (fun xs H Q => ∃ b, xs = [.bl b] ∧ Q (.str (if b then "True" else "False")) H) := by
  intro pins s σ H xs us Q I r h
  obtain ⟨b, rfl, q⟩ := h
  obtain ⟨u, rfl, hu⟩ := vals1 r
  cases hu
  exact PySem.P.repr_of_bool ⟨.str _, H, I.tok _, ⟨_, rfl⟩, q⟩
/-- powers of an int whose size is known -/
theorem op_powW : OpR X (binaryOp .Pow) (rI (fun i j => 0 ≤ j ∧ (Builtin.Int.intBits i : Int) * j ≤ 2 ^ 27) fun i j => .int (i ^ j.toNat)) := opI fun _ _ _ _ _ _ _ hc q => pow_int hc.1 hc.2 q
end
/-! ### t[::-1] -/
section
variable {prog : Program} {w : World} {A : Around} {E : Value → Shared → Prop} {s : Shared}
theorem sliceApplied_rev {sl : Addr} {vs : Value} {n : Nat} {Q : Int × Int × Nat → Shared → Prop} (hs : s.heap.IsSliceOf sl .none .none vs) (ps : IsPart vs (some (-1)))
    (h : Q ((n : Int) - 1, -1, n) s) : wpAny (model prog w) A (Builtin.Slice.sliceApplied (.ref sl) (pure (n : Int))) Q E s := by
  obtain ⟨os, hos, hcs, hds⟩ := id hs
  unfold Builtin.Slice.sliceApplied Builtin.Slice.sliceFields
  refine wpAny_bind (wpAny_bind (wpAny_field hos hds (x := .none) rfl (wpAny_bind (wpAny_field hos hds (x := .none) rfl (wpAny_bind (wpAny_field hos hds (x := vs) rfl (wpAny_pure ?_)))))))
  refine wpAny_bind (slicePart_ ps ?_)
  show wpAny _ _ (if ((-1 : Int) == 0) = true then _ else _) _ _ s
  rw [if_neg (by decide)]
  refine wpAny_bind (slicePart_ .none (wpAny_bind (slicePart_ .none (wpAny_bind (wpAny_pure ?_)))))
  have e : Builtin.Slice.slicePlaces ((n : Int) - 1) (-1) (-1) = n := by
    unfold Builtin.Slice.slicePlaces
    rw [if_neg (by decide)]
    by_cases q : (n : Int) - 1 > -1
    · rw [if_pos q]
      simp
    · rw [if_neg q]
      have : n = 0 := by omega
      subst this
      rfl
  refine wpAny_pure ?_
  show Q ((n : Int) - 1, -1, Builtin.Slice.slicePlaces ((n : Int) - 1) (-1) (-1)) s
  rw [e]
  exact h
theorem fm_congr {α β : Type} {f g : α → Option β} : ∀ l : List α, (∀ x ∈ l, f x = g x) → l.filterMap f = l.filterMap g
  | [], _ => rfl
  | x :: l, h => by
    have e := fm_congr (f := f) (g := g) l fun y hy => h y (List.mem_cons_of_mem _ hy)
    rw [List.filterMap_cons, List.filterMap_cons, h x (List.mem_cons_self ..), e]
theorem pick_rev (xs : Array Value) : ((List.range xs.size).filterMap fun (m : Nat) => xs[((xs.size : Int) - 1 + (m : Int) * (-1)).toNat]?).toArray = xs.toList.reverse.toArray := by
  congr 1
  refine List.ext_getElem? fun i => ?_
  have e : (List.range xs.size).filterMap (fun (m : Nat) => xs[((xs.size : Int) - 1 + (m : Int) * (-1)).toNat]?) = (List.range xs.size).map (fun m => xs.toList.reverse.getD m default) := by
    rw [← List.filterMap_eq_map]
    refine fm_congr _ fun m hm => ?_
    have hm := List.mem_range.mp hm
    have e1 : ((xs.size : Int) - 1 + (m : Int) * (-1)).toNat = xs.size - 1 - m := by omega
    rw [e1]
    show xs[xs.size - 1 - m]? = some (xs.toList.reverse.getD m default)
    rw [List.getD_eq_getElem?_getD, List.getElem?_reverse (by simpa using hm)]
    rw [Array.length_toList, Array.getElem?_toList, Array.getElem?_eq_getElem (by omega)]
    rfl
  rw [e, List.getElem?_map]
  by_cases q : i < xs.size
  · rw [List.getElem?_range q]
    show some (xs.toList.reverse.getD i default) = _
    rw [List.getD_eq_getElem?_getD, List.getElem?_eq_getElem (by simpa using q)]
    rfl
  · rw [List.getElem?_eq_none (by simpa using q), List.getElem?_eq_none (by simpa using q)]
    rfl
theorem getItem_tuple_rev {t sl : Addr} {items : Array Value} {vs : Value} {Q : Value → Shared → Prop} (ht : IsTup s.heap t items) (hs : s.heap.IsSliceOf sl .none .none vs) (ps : IsPart vs (some (-1)))
    (h : Q (.ref s.heap.objs.size) { s with heap := s.heap.push { cls := .type "tuple", data := .seq items.toList.reverse.toArray } }) (hsz : items.size ≤ sizeLine) : wpAny (model prog w) A (getItem (.ref t) (.ref sl)) Q E s := by
  have htake : sizeOk (.seq items.toList.reverse.toArray) := by
    show items.toList.reverse.toArray.size ≤ sizeLine
    rw [List.size_toArray, List.length_reverse, Array.length_toList]
    exact hsz
  obtain ⟨os, hos, hcs, hds⟩ := id hs
  have hTs : s.TypeIs (.ref sl) "slice" := ⟨os, hos, hcs⟩
  unfold getItem
  try with_reducible refine wpAny_holding ?_
  first | refine wpAny_bind (wpAny_pure ?_) | skip
  refine wpAny_bind (wpAny_sequenceKey ht.typeIs (by decide) ?_)
  refine wpAny_bind (wpAny_callSpecial?_slot (name := Str.ofString "__getitem__") ht.typeIs PyProof.Rows.slot_tuple_getitem
    (wpAny_call_entry PyProof.Rows.slot_tuple_getitem ht.typeIs entry_tuple_getitem ?_ (args_tuple_getitem _ _)))
  show wpAny _ _ (Builtin.Tuple.tupleItemsOf (.ref t) >>= _) _ _ s
  refine wpAny_bind (tupleItemsOf_ ht ?_)
  refine wpAny_bind (wpAny_typeOf hTs ?_)
  rw [if_pos (by decide)]
  refine wpAny_bind (sliceApplied_rev hs ps ?_)
  have hno : ¬ ((((items.size : Int) - 1) == 0 && (-1 : Int) == 1 && items.size == items.size) = true) := by
    intro q
    rw [Bool.and_eq_true, Bool.and_eq_true] at q
    exact absurd q.1.2 (by decide)
  show wpAny _ _ (if (((items.size : Int) - 1) == 0 && (-1 : Int) == 1 && items.size == items.size) = true then _ else _) _ _ s
  rw [if_neg hno, pick_rev]
  first
    | exact wpAny_bind (m := Builtin.Tuple.tupleExact _) (wpAny_newObj_type (wpAny_pure ⟨_, rfl, wpAny_pure h⟩) htake)
    | exact wpAny_bind (m := Builtin.Tuple.tupleExact _) (wpAny_newObj_type (wpAny_bind (wpAny_pure (wpAny_pure ⟨_, rfl, wpAny_pure h⟩))) htake)
    | exact wpAny_bind (wpAny_bind (m := Builtin.Tuple.tupleExact _) (wpAny_newObj_type (wpAny_pure (wpAny_pure ⟨_, rfl, wpAny_pure h⟩)) htake))
    | exact wpAny_bind (wpAny_bind (m := Builtin.Tuple.tupleExact _) (wpAny_newObj_type (wpAny_pure ⟨_, rfl, wpAny_pure h⟩) htake))
end
section
variable {X : Cx}
def tRevT (K : PySem.W.Frag) (te : TE) : TE := fun σ H Q => te σ H fun x H1 => ∃ a xs, x = .ref a ∧ SqT K H1 a xs ∧ ∀ p, H1 p = none → Q (.ref p) (upd H1 p (.tup xs.reverse))
theorem pe_revT {e : Expr} {te : TE} {k : Nat} {p1 p2 p3 pos : Pos} (he : PE X e te) : PE X (.Subscript e (.Slice none none (some (.UnaryOp .USub (.Constant (.int 1) k p1) p2)) p3) pos) (tRevT X.K te) := by
  refine ⟨fun pins s σ H Q I h => ?_⟩
  refine Subscript_ (thn (he.run pins s σ H _ I h) fun v s1 ⟨x, H1, I1, r1, q1⟩ => ?_)
  obtain ⟨a, xs, ex, hx, q⟩ := q1
  subst ex
  cases r1
  have hst : PO X (some (.UnaryOp .USub (.Constant (.int 1) k p1) p2)) (tPart (tUn (rU fun i => .int (-i)) (tC (.int 1)))) := po_some (pe_un un_neg pe_int)
  refine wpAny_Slice (thn (po_none.run pins s1 σ H1 (fun o H2 => o = none ∧ H2 = H1) I1 ⟨rfl, rfl⟩) fun vl s2 ⟨l, H2, I2, pl, el, e2⟩ => ?_)
  subst el e2
  refine thn (po_none.run pins s2 σ H2 (fun o H3 => o = none ∧ H3 = H2) I2 ⟨rfl, rfl⟩) fun vu s3 ⟨u, H3, I3, pu, eu, e3⟩ => ?_
  subst eu e3
  refine thn (hst.run pins s3 σ H3 (fun o H4 => o = some (-1) ∧ H4 = H3) I3 ⟨1, rfl, -1, rfl, rfl, rfl⟩) fun vs s4 ⟨o, H4, I4, ps, eo, e4⟩ => ?_
  subst eo e4
  cases pl
  cases pu
  have I5 : Inv X pins σ H4 { s4 with heap := s4.heap.push { cls := .type "slice", data := .fields #[.none, .none, vs] } } := I4.kept (t' := s4.toks) fun b ob q => Heap.get?_push_of_some _ q
  obtain ⟨its, r, ht, hz⟩ := I5.tuple hx
  have hlen := r.length
  show wpAny (model X.prog X.w) X.A (subscriptTail e (.Slice none none (some (.UnaryOp .USub (.Constant (.int 1) k p1) p2)) p3) (.ref a) (.ref s4.heap.objs.size)) (EP X pins σ Q) X.xe { s4 with heap := s4.heap.push { cls := .type "slice", data := .fields #[.none, .none, vs] } }
  refine tail_any (ops := [.ref a, .ref s4.heap.objs.size]) ht.typeIs (PyProof.Rows.slot_tuple_getitem.lookup) ?_ (by with_unfolding_all rfl)
  refine getItem_tuple_rev ht (Heap.IsSliceOf.new _ .none .none vs) ps ?_ (by rw [List.size_toArray]; omega)
  refine ⟨.ref _, _, I5.laid (t' := s4.toks) (o := .tup xs.reverse) (fun b ob q => Heap.get?_push_of_some _ q) (Nat.le_refl _) ?_, rfl, q _ (I5.hok.fresh (Nat.le_refl _))⟩
  exact ⟨by rw [List.length_reverse]; exact hz, _, r.reverse, IsTup.new _ _⟩
end
end Zg
set_option Elab.async false
set_option linter.all false
set_option maxRecDepth 100000
set_option maxHeartbeats 4000000
namespace Zg
open PySem PySem.Spec PyProof.Rows L2 HT L2.DX
/-! ### tuples told at new addresses -/
def putTs : Hp → List Addr → List (List V) → Hp
  | H, a :: as, p :: ps => putTs (upd H a (.tup p)) as ps
  | H, _, _ => H
theorem putTs_off {b : Addr} : ∀ (as : List Addr) (ps : List (List V)) (H : Hp), b ∉ as → putTs H as ps b = H b
  | [], _, _, _ => rfl
  | _ :: _, [], _, _ => rfl
  | a :: as, p :: ps, H, h => by
    show putTs (upd H a (.tup p)) as ps b = H b
    rw [putTs_off as ps _ (fun z => h (List.mem_cons_of_mem _ z)), upd_ne (fun z => h (by rw [z]; exact List.mem_cons_self))]
theorem putTs_at : ∀ (as : List Addr) (ps : List (List V)) (H : Hp), as.length = ps.length → as.Nodup → Paired (fun (t : Addr) (p : List V) => putTs H as ps t = some (.tup p)) as ps
  | [], [], _, _, _ => .nil
  | [], _ :: _, _, h, _ => by cases h
  | _ :: _, [], _, h, _ => by cases h
  | a :: as, p :: ps, H, h, hn => by
    have hn' := List.nodup_cons.mp hn
    have ih := putTs_at as ps (upd H a (.tup p)) (Nat.succ.inj h) hn'.2
    refine .cons ?_ ih
    show putTs (upd H a (.tup p)) as ps a = some (.tup p)
    rw [putTs_off as ps _ hn'.1, upd_same]
theorem vals_refs : ∀ as : List Addr, Vals (as.map V.ref) (as.map Value.ref)
  | [] => .nil
  | _ :: as => .cons rfl (vals_refs as)
theorem paired_ix {α β : Type} {F : α → β → Prop} : ∀ {xs : List α} {ys : List β}, Paired F xs ys → ∀ {x : α}, x ∈ xs → ∃ (j : Nat) (y : β), xs[j]? = some x ∧ ys[j]? = some y ∧ F x y
  | _, _, .cons h t, x, hx => by
    rcases List.mem_cons.mp hx with e | hx
    · rw [e]
      exact ⟨0, _, rfl, rfl, h⟩
    · obtain ⟨j, y, e1, e2, e3⟩ := paired_ix t hx
      exact ⟨j + 1, y, e1, e2, e3⟩
theorem paired_get {α β : Type} {F : α → β → Prop} : ∀ {xs : List α} {ys : List β}, Paired F xs ys → ∀ {i : Nat} {x : α}, xs[i]? = some x → ∃ y, ys[i]? = some y ∧ F x y
  | _, _, .nil, i, x, h => by cases h
  | _, _, .cons r t, 0, x, h => by
    have e := Option.some.inj h
    subst e
    exact ⟨_, rfl, r⟩
  | _, _, .cons r t, i + 1, x, h => paired_get t h
theorem paired_of {α β : Type} {F : α → β → Prop} : ∀ {xs : List α} {ys : List β}, xs.length = ys.length → (∀ (i : Nat) (x : α) (y : β), xs[i]? = some x → ys[i]? = some y → F x y) → Paired F xs ys
  | [], [], _, _ => .nil
  | [], _ :: _, h, _ => by cases h
  | _ :: _, [], h, _ => by cases h
  | x :: xs, y :: ys, h, k => .cons (k 0 x y rfl rfl) (paired_of (Nat.succ.inj h) fun i a b ha hb => k (i + 1) a b ha hb)
section
variable {X : Cx}
theorem tups_laid {pins : List (Addr × Obj)} {σ : L2.St} {H : Hp} {s : Shared} {h' : Heap} {tk : Nat} {acc : Array Value} {c : Nat} {as : List Addr} {ps : List (List V)} (I : Inv X pins σ H s)
    (hk : ∀ b o, s.heap.get? b = some o → h'.get? b = some o) (hS : h'.get? s.heap.objs.size = some { cls := .type "list", dict := none, data := .seq acc c, slots := #[] })
    (rise : as.Pairwise (· < ·)) (above : ∀ a ∈ as, s.heap.objs.size < a) (hz : as.length ≤ sizeLine) (hacc : acc.toList = as.map Value.ref)
    (hp : Paired (fun (t : Addr) (p : List V) => p.length ≤ 1000 ∧ ∃ us, Vals p us ∧ h'.get? t = some { cls := .type "tuple", data := .seq us.toArray }) as ps) :
    ∃ H' : Hp, Same H H' ∧ H s.heap.objs.size = none ∧ H' s.heap.objs.size = some (.lst (as.map V.ref)) ∧ Paired (fun (t : Addr) (p : List V) => H' t = some (.tup p)) as ps ∧ Inv X pins σ H' { s with heap := h', toks := tk } := by
  have hSn : s.heap.objs.size ∉ as := fun z => Nat.lt_irrefl _ (above _ z)
  have nd : as.Nodup := List.Pairwise.imp (fun {a b} (h : a < b) => Nat.ne_of_lt h) rise
  have new : ∀ t ∈ as, H t = none := fun t ht => I.hok.fresh (Nat.le_of_lt (above t ht))
  have newS : H s.heap.objs.size = none := I.hok.fresh (Nat.le_refl _)
  have atP := putTs_at as ps (upd H s.heap.objs.size (.lst (as.map V.ref))) (Paired.length hp) nd
  have off : ∀ b, b ∉ as → b ≠ s.heap.objs.size → putTs (upd H s.heap.objs.size (.lst (as.map V.ref))) as ps b = H b := fun b h1 h2 => by rw [putTs_off as ps _ h1, upd_ne h2]
  have low : ∀ b o, s.heap.get? b = some o → b ∉ as ∧ b ≠ s.heap.objs.size := fun b o e => ⟨fun z => absurd (Heap.lt_size e) (Nat.not_lt.mpr (Nat.le_of_lt (above b z))), Nat.ne_of_lt (Heap.lt_size e)⟩
  have kp : ∀ b u, H b = some u → (putTs (upd H s.heap.objs.size (.lst (as.map V.ref))) as ps) b = some u := fun b u e => by
    rw [off b (fun z => by rw [new b z] at e; cases e) (fun z => by rw [z, newS] at e; cases e)]
    exact e
  have eS : putTs (upd H s.heap.objs.size (.lst (as.map V.ref))) as ps s.heap.objs.size = some (.lst (as.map V.ref)) := by rw [putTs_off as ps _ hSn, upd_same]
  refine ⟨putTs (upd H s.heap.objs.size (.lst (as.map V.ref))) as ps, kp, newS, eS, atP, ?_⟩
  refine I.call' (ch := []) rfl ⟨fun b o q _ _ _ => hk b o q, fun b o q _ _ _ => ⟨o.slots, hk b o q⟩, fun b o q n _ => ?_, fun b o q _ => ⟨o, hk b o q⟩, fun b xs q => kp b _ q, fun b o u q => kp b _ q, fun b ps q => ⟨#[], by rw [kp b _ q]; simp⟩⟩ (fun b u q => ?_) I.bare fun b z => by simp at z
  · obtain ⟨z1, z2⟩ := low b o q
    rw [off b z1 z2]
    exact n
  · by_cases hb : b ∈ as
    · obtain ⟨j, pk, e1, e2, e3⟩ := paired_ix atP hb
      rw [e3] at q
      cases q
      obtain ⟨pk', e2', hl, us, hv, hg⟩ := paired_get hp e1
      rw [e2] at e2'
      cases e2'
      exact ⟨Nat.le_of_lt (small1000 hl), us, hv, ⟨_, hg, rfl, _, rfl⟩⟩
    · by_cases hb2 : b = s.heap.objs.size
      · rw [hb2] at q ⊢
        rw [eS] at q
        cases q
        refine ⟨by rw [List.length_map]; exact hz, acc.toList, c, by rw [hacc]; exact vals_refs as, ?_⟩
        rw [Array.toArray_toList]
        exact hS
      · rw [off b hb hb2] at q
        exact (I.hok b u q).stay (fun d v _ y => hk d v y) (fun d y => kp d _ y) fun d xs y => kp d _ y

/-! ### list(d.items()) of a dict with tuples as keys -/
/-- a pair: a key's tuple, a value -/
def PrAt (H : Hp) (t : Addr) (q : List L2.Key × V) : Prop := ∃ b, H t = some (.tup [.ref b, q.2]) ∧ H b = some (.tup (q.1.map kV))
def rListItT : List V → Hp → VK → Prop := fun xs H Q => ∃ (p d : Addr) (kvs : List (List L2.Key × V)), xs = [.ref p] ∧ H p = some (itemsO p d) ∧ H d = some (.dT kvs) ∧
  ∀ (H' : Hp) (l : Addr) (ts : List Addr), Same H H' → H l = none → H' l = some (.lst (ts.map V.ref)) → Paired (PrAt H') ts kvs → Q (.ref l) H'
theorem call_list_itemsT (hc : X.calm = true) : CallR X (.type "list") rListItT := by
  intro pins s σ H xs us Q I r h
  obtain ⟨p, d, kvs, rfl, hp, hd, q⟩ := h
  obtain ⟨u, rfl, ru⟩ := vals1 r
  cases ru
  have hv : s.heap.IsItemsView p d := (I.hok p _ hp).1
  obtain ⟨hz, hsm, xs, rel, hm⟩ := dt_of I.hok hd
  obtain ⟨es, ep, hraw, hsz, hes⟩ := hm.raw
  have lk : kvs.length = xs.length := Paired.length rel
  refine PySem.W.dil_call (I.ok.hd hc) hv hraw (by omega) fun h' tk acc c as hk hS hl hG hacc => ?_
  have hp' : Paired (fun (t : Addr) (p : List V) => p.length ≤ 1000 ∧ ∃ us, Vals p us ∧ h'.get? t = some { cls := .type "tuple", data := .seq us.toArray }) as ((kvs.zip xs).map fun z => [V.ref z.2.2.1, z.1.2]) := by
    refine paired_of (by rw [List.length_map, List.length_zip]; omega) fun i t y ht hy => ?_
    obtain ⟨hj, e1⟩ := hG.pairs i t ht
    obtain ⟨x, hx, e2, e3, _⟩ := hes i hj
    rw [List.getElem?_map] at hy
    obtain ⟨⟨k0, x0⟩, hzz, ey⟩ := Option.map_eq_some_iff.mp hy
    obtain ⟨hk1, hk2⟩ := List.getElem?_zip_eq_some.mp hzz
    obtain ⟨x1, hx1, r1, r2, r3⟩ := paired_get rel hk1
    rw [hx1] at hk2
    cases hk2
    rw [hx] at hx1
    cases hx1
    subst ey
    refine ⟨by show 2 ≤ 1000; decide, [.ref x0.2.1, x0.2.2], .cons rfl (.cons r3 .nil), ?_⟩
    rw [e1, e2, e3]
  obtain ⟨H', k1, k2, k3, k4, J⟩ := tups_laid (tk := tk) I hk hS hG.rise hG.above (by omega) hacc hp'
  refine ⟨.ref _, H', J, rfl, q H' _ as k1 k2 k3 ?_⟩
  refine paired_of (by omega) fun i t kv ht hkv => ?_
  obtain ⟨y, hy, ey⟩ := paired_get k4 ht
  rw [List.getElem?_map] at hy
  obtain ⟨⟨k0, x0⟩, hzz, ez⟩ := Option.map_eq_some_iff.mp hy
  obtain ⟨hk1, hk2⟩ := List.getElem?_zip_eq_some.mp hzz
  rw [hkv] at hk1
  cases hk1
  obtain ⟨x1, hx1, r1, r2, r3⟩ := paired_get rel hkv
  rw [hx1] at hk2
  cases hk2
  subst ez
  exact ⟨x0.2.1, ey, k1 _ _ r2⟩

/-! ### dict(pairs) -/
theorem storedAll_new {K : Type} [DecidableEq K] : ∀ (ps xs : List (K × Addr × Value)), ((xs ++ ps).map (·.1)).Nodup → storedAllH xs ps = xs ++ ps
  | [], xs, _ => by
    rw [List.append_nil]
    rfl
  | p :: ps, xs, h => by
    have e : atKey xs p.1 = none := by
      unfold atKey
      rw [List.map_append, List.map_cons] at h
      have hd := (List.nodup_append.mp h).2.2
      cases q : xs.find? (fun x => decide (x.1 = p.1)) with
      | none =>
        rfl
      | some y =>
        have hy := List.find?_some q
        have hm := List.mem_of_find?_eq_some q
        exact absurd (of_decide_eq_true hy) (hd y.1 (List.mem_map.mpr ⟨y, hm, rfl⟩) p.1 (List.mem_cons_self ..))
    show storedAllH (storedH xs p.1 p.2.1 p.2.2) ps = xs ++ p :: ps
    rw [storedH_new e, storedAll_new ps (xs ++ [(p.1, p.2.1, p.2.2)]) (by rw [List.append_assoc]; exact h), List.append_assoc]
    rfl
def rDictPT (K : PySem.W.Frag) : List V → Hp → VK → Prop := fun vs H Q => ∃ (a : Addr) (ts : List Addr) (kvs : List (List L2.Key × V)), vs = [.ref a] ∧ SqL K H a (ts.map V.ref) ∧ Paired (PrAt H) ts kvs ∧
  (kvs.map (·.1)).Nodup ∧ ∀ p, H p = none → Q (.ref p) (upd H p (.dT kvs))
theorem call_dictPT (hcalm : X.calm = true) (hu : X.A.units + 64 < cLine) : CallR X (.type "dict") (rDictPT X.K) := by
  intro pins s σ H vs us Q I r q
  obtain ⟨a, ts, kvs, rfl, hq, hp, hn, q⟩ := q
  obtain ⟨u, rfl, ru⟩ := vals1 r
  cases ru
  obtain ⟨its, rv, pl, hz⟩ := I.list hq
  have ei := refs_at rv
  subst ei
  rw [List.length_map] at hz
  obtain ⟨o, n, ho, hc, hd, hdat⟩ := pl
  have lk : ts.length = kvs.length := Paired.length hp
  -- the entries
  have ex : ∃ ps : List (List L2.Key × Addr × Value), KT H kvs ps ∧ ∀ (i : Nat) (t : Addr) (x : List L2.Key × Addr × Value), ts[i]? = some t → ps[i]? = some x → s.heap.IsTuple t #[.ref x.2.1, x.2.2] := by
    clear hz hq rv hdat hn lk q
    induction hp with
    | nil => exact ⟨[], .nil, fun i t x h => by simp at h⟩
    | @cons t q ts kvs h _ ih =>
      obtain ⟨ps, r1, r2⟩ := ih
      obtain ⟨b, hb1, hb2⟩ := h
      obtain ⟨_, its, rv, ht⟩ := (show ObjOk X.prog X.w H s.heap t (.tup [.ref b, q.2]) from I.hok t _ hb1)
      obtain ⟨u, y, ei, ru, ry⟩ := vals2 rv
      subst ei
      cases ru
      refine ⟨(q.1, b, y) :: ps, .cons ⟨rfl, hb2, ry⟩ r1, fun i t' x ht' hx => ?_⟩
      cases i with
      | zero =>
        have e1 : t = t' := Option.some.inj ht'
        have e2 : (q.1, b, y) = x := Option.some.inj hx
        subst e1 e2
        exact ht
      | succ i => exact r2 i t' x (by simpa using ht') (by simpa using hx)
  obtain ⟨ps, rel, htup⟩ := ex
  have lp : kvs.length = ps.length := Paired.length rel
  have keys : kvs.map (·.1) = ps.map (·.1) := by
    clear hn hz htup lp lk hp q
    induction rel with
    | nil => rfl
    | cons h t ih => rw [List.map_cons, List.map_cons, ih, h.1]
  have his : ∀ h'' : Heap, (∀ b o, s.heap.get? b = some o → h''.get? b = some o) → ∀ x ∈ ps, (tupleKind (mixKind X.prog X.w)).is h'' x.1 x.2.1 := fun h'' hk x hx => by
    obtain ⟨i, hi⟩ := List.mem_iff_getElem?.mp hx
    obtain ⟨y, hy⟩ : ∃ y, kvs[i]? = some y := by
      have : i < kvs.length := by
        have := (List.getElem?_eq_some_iff.mp hi).1
        omega
      exact ⟨_, List.getElem?_eq_getElem this⟩
    obtain ⟨x', hx', r1, r2, r3⟩ := paired_get rel hy
    rw [hi] at hx'
    cases hx'
    rw [← r1]
    exact key_of (I.hok.kept hk) r2
  refine call_dict_pairsH (knd := tupleKind (mixKind X.prog X.w)) (ps := ps) (PairArg.list (prog := X.prog) (w := X.w) a (ts.map Value.ref).toArray (fun j => ts.getD j 0) (ps.map fun x => (Value.ref x.2.1, x.2.2))) (I.ok.hd hcalm)
    (show X.A.in1.in1.units < cLine from by show X.A.units + 1 + 1 < cLine; omega)
    ⟨⟨o, n, ho, hc, hd, hdat⟩, by simp; omega, fun j k v hj => ?_⟩ ⟨by rw [List.length_map], fun i key v hr => ?_⟩ (fun h'' hk x hx => his h'' (fun b o e => hk b o (Nat.ne_of_lt (Heap.lt_size e)) (by simp) e) x hx) (by rw [List.length_map]; omega) fun h' tk hd' hk => ?_
  · rw [List.getElem?_map] at hj
    obtain ⟨x, hx, ex⟩ := Option.map_eq_some_iff.mp hj
    cases ex
    have hjt : j < ts.length := by
      have := (List.getElem?_eq_some_iff.mp hx).1
      omega
    have et : ts[j]? = some (ts.getD j 0) := by
      rw [List.getD_eq_getElem?_getD, List.getElem?_eq_getElem hjt]
      rfl
    refine ⟨?_, .inl (htup j _ x et hx)⟩
    rw [List.getElem?_toArray, List.getElem?_map, et]
    rfl
  · have hr : (ps.map fun x => (Value.ref x.2.1, x.2.2))[i]? = some (key, v) := hr
    rw [List.getElem?_map] at hr
    obtain ⟨x, hx, ex⟩ := Option.map_eq_some_iff.mp hr
    cases ex
    exact ⟨x.1, x.2.1, hx, rfl⟩
  · have hk' : ∀ b o, s.heap.get? b = some o → h'.get? b = some o := fun b o e => hk b o (by simp) e
    have hm : (s.heap.objs.size == sysModules) = false := beq_eq_false_iff_ne.mpr (Nat.ne_of_gt I.big)
    rw [storedAll_new ps [] (by rw [List.nil_append, ← keys]; exact hn), List.nil_append] at hd'
    obtain ⟨o', es, ep, h1, h2, h3, h4, h5, h6⟩ := hd'
    have hf : H s.heap.objs.size = none := I.hok.fresh (Nat.le_refl _)
    refine ⟨.ref s.heap.objs.size, upd H s.heap.objs.size (.dT kvs), I.laid (t' := tk) hk' (Nat.le_refl _) ⟨by omega, hm, ps, rel.keeps fun c ys ec => ?_, o', es, ep, h1, h2, h3, h4, h6⟩, rfl, q _ hf⟩
    rw [upd_ne (ne_of_none ec hf)]
    exact ec
end
end Zg
set_option Elab.async false
set_option linter.all false
set_option maxRecDepth 100000
set_option maxHeartbeats 4000000
namespace Zg
open PySem PySem.Calls PySem.Spec PyProof.Rows PyProof.V L2 HT L2.DX
/-! ### == of dicts with the same keys, tuples, in one sequence -/
section
variable {prog : Program} {w : World} {K : Type} [DecidableEq K] {knd : HeapKind prog w K} {A : Around} {E : Value → Shared → Prop} {s : Shared}
theorem samePairsH {nm : String} {a b : Addr} {xa xb : List (K × Addr × Value)} {r : Nat → Bool} {Q : Bool → Shared → Prop} (hu : knd.room A) (ha : (a == sysModules) = false) (hb : (b == sysModules) = false)
    (da : s.heap.DictOfH knd a xa) (db : s.heap.DictOfH knd b xb) (hkeys : xa.map (·.1) = xb.map (·.1)) (hits : ∀ i x y, xa[i]? = some x → xb[i]? = some y → SeqAt.EqP prog w A s x.2.2 y.2.2 (r i))
    (h : Q ((List.range xa.length).all r) s) :
    wpAny (model prog w) A (Builtin.Dict.samePairs nm a b) Q E s := by
  obtain ⟨oa, es, ep, hoa, _, hda, hpa, hisa, hna⟩ := da
  obtain ⟨ob, es', ep', hob, _, hdb, hpb, hisb, hnb⟩ := db
  have hla : xa.length = es.size := (size_of_entries hpa).symm
  have hlb : xb.length = es'.size := (size_of_entries hpb).symm
  have hll : xa.length = xb.length := by
    have := congrArg List.length hkeys
    simpa using this
  have hsz : es.size = es'.size := by omega
  unfold Builtin.Dict.samePairs Builtin.Dict.showsAll
  rw [if_neg (show ¬ (a == sysModules) = true by rw [ha]; exact Bool.false_ne_true), if_neg (show ¬ (b == sysModules) = true by rw [hb]; exact Bool.false_ne_true)]
  refine wpAny_bind (wpAny_pure (wpAny_bind (wpAny_pure ?_)))
  refine wpAny_bind (wpAny_dictEntries hoa hda ?_)
  dsimp only
  refine wpAny_bind (wpAny_dictEntries hob hdb ?_)
  rw [if_neg (by rw [hsz]; simp)]
  refine wpAny_bind (wpAny_dictEpoch hoa hda ?_)
  refine wpAny_bind ?_
  rw [Std.Legacy.Range.forIn_eq_forIn_range']
  simp only [Std.Legacy.Range.size, Nat.sub_zero, Nat.add_sub_cancel, Nat.div_one]
  refine wpAny_forIn_list _
    (fun rest q s' => s' = s ∧ q = (none, ()) ∧ ∃ i, rest = List.range' i (es.size - i) ∧ i ≤ es.size ∧ ∀ j, j < i → r j = true)
    _ ?_ ?_ _ _ ⟨rfl, rfl, 0, by simp, Nat.zero_le _, fun j hj => absurd hj (Nat.not_lt_zero j)⟩
  · rintro x rest q s' ⟨rfl, rfl, i, hr, hi, hpre⟩
    have hlt : i < es.size := by
      rcases Nat.lt_or_ge i es.size with h | h
      · exact h
      · rw [Nat.sub_eq_zero_of_le h] at hr; simp at hr
    obtain ⟨rfl, hrest⟩ : x = i ∧ rest = List.range' (i + 1) (es.size - (i + 1)) := by
      have e : es.size - i = (es.size - (i + 1)) + 1 := by omega
      rw [e, List.range'_succ] at hr
      injection hr with h1 h2
      exact ⟨h1, h2⟩
    refine wpAny_bind (wpAny_dictEntries hoa hda ?_)
    rw [Array.getElem?_eq_getElem hlt]
    have hlt' : x < xa.length := by rw [hla]; exact hlt
    have hlt2 : x < xb.length := by omega
    obtain ⟨⟨k, b1, v⟩, hkv⟩ : ∃ y, xa[x]? = some y := ⟨_, List.getElem?_eq_getElem hlt'⟩
    obtain ⟨⟨k2, b2, v2⟩, hkv2⟩ : ∃ y, xb[x]? = some y := ⟨_, List.getElem?_eq_getElem hlt2⟩
    have ek : k = k2 := by
      have e1 := congrArg (fun l => l[x]?) hkeys
      simp only [List.getElem?_map, hkv, hkv2] at e1
      exact Option.some.inj e1
    subst ek
    have eent : es[x] = entryOfKey knd (k, b1, v) := by
      have e := entry_at hpa x
      rw [hkv, Array.getElem?_eq_getElem hlt] at e
      exact Option.some.inj e
    rw [eent]
    have hlte : x < es'.size := by omega
    have eent2 : es'[x]'hlte = entryOfKey knd (k, b2, v2) := by
      have e := entry_at hpb x
      rw [hkv2, Array.getElem?_eq_getElem hlte] at e
      exact Option.some.inj e
    have hkey : knd.is s'.heap k b1 := hisa (k, b1, v) (List.mem_of_getElem? hkv)
    show wpAny _ _ (holding [Value.ref b1, v] _ >>= _) _ _ _
    refine wpAny_bind (wpAny_holding (wpAny_bind (wpAny_dictFind_heap hu hkey hob hdb hpb hisb hnb (fun hno => absurd hkv2 (hno x (b2, v2))) fun j p hj => ?_)))
    have ej : j = x := idxH_unique hnb hj hkv2
    subst ej
    refine wpAny_bind (wpAny_dictEntries hob hdb ?_)
    rw [Array.getElem?_eq_getElem hlte, eent2]
    have he := hits j _ _ hkv hkv2
    refine wpAny_holding (he _ _ ?_)
    cases hrj : r j with
    | false =>
      have eall : (List.range xa.length).all r = false := by
        rw [List.all_eq_false]
        exact ⟨j, List.mem_range.mpr hlt', by rw [hrj]; exact Bool.false_ne_true⟩
      rw [eall] at h
      show wpAny _ _ (if (!false) = true then _ else _) _ _ _
      rw [if_pos (by decide)]
      exact wpAny_pure (wpAny_pure h)
    | true =>
      show wpAny _ _ (if (!true) = true then _ else _) _ _ _
      rw [if_neg (by decide)]
      refine wpAny_bind (wpAny_dictEpoch hoa hda ?_)
      rw [if_neg (by simp)]
      refine wpAny_pure ⟨rfl, rfl, j + 1, hrest, hlt, fun m hm => ?_⟩
      by_cases q : m = j
      · rw [q]
        exact hrj
      · exact hpre m (by omega)
  · rintro q s' ⟨rfl, rfl, i, hr, hi, hpre⟩
    have hin : i = es.size := by
      rcases Nat.lt_or_ge i es.size with h | h
      · have e : es.size - i = (es.size - (i + 1)) + 1 := by omega
        rw [e, List.range'_succ] at hr; exact nomatch hr
      · exact Nat.le_antisymm hi h
    refine wpAny_pure ?_
    have eall : (List.range xa.length).all r = true := by
      rw [List.all_eq_true]
      intro m hm
      exact hpre m (by have := List.mem_range.mp hm; omega)
    rw [eall] at h
    exact h
theorem rcH_dicts {a b : Addr} {xa xb : List (K × Addr × Value)} {r : Nat → Bool} (hr : knd.room A.in1) (ha : (a == sysModules) = false) (hb : (b == sysModules) = false)
    (da : s.heap.DictOfH knd a xa) (db : s.heap.DictOfH knd b xb) (hkeys : xa.map (·.1) = xb.map (·.1)) (hu : A.units < cLine) (hits : ∀ i x y, xa[i]? = some x → xb[i]? = some y → SeqAt.EqP prog w A.in1 s x.2.2 y.2.2 (r i))
    (E Q : Value → Shared → Prop) (h : Q (.bool ((List.range xa.length).all r)) s) : wpAny (model prog w) A (richCompare .Eq (.ref a) (.ref b)) Q E s := by
  refine wpAny_richCompare_same_room (op := .Eq) da.typeIs db.typeIs PySem.F.slot_dict_eq (wpAny_call_entry PySem.F.slot_dict_eq da.typeIs PySem.F.entry_dict_eq ?_ (PySem.F.args_dict_eq_2 _ _)) hu
  show wpAny _ _ (Builtin.Dict.dictSlotArgs "__eq__" ⟨[.ref a, .ref b], []⟩ >>= _) _ _ s
  refine wpAny_bind ?_
  unfold Builtin.Dict.dictSlotArgs
  refine wpAny_bind (wpAny_notOrdered_dict da.typeIs ?_)
  show wpAny _ _ (pure (Value.ref a, Value.ref b)) _ _ s
  refine wpAny_pure ?_
  refine wpAny_bind (wpAny_isInstance (T := "dict") db.typeIs PySem.F.sub_dict_dict ?_)
  simp only [Bool.not_true, Bool.false_eq_true, if_false]
  refine wpAny_bind (wpAny_pure (wpAny_bind (wpAny_pure ?_)))
  refine wpAny_bind (samePairsH hr ha hb da db hkeys hits ?_)
  refine wpAny_pure ⟨_, rfl, ?_, ?_⟩
  · exact fun x => nomatch x
  · simpa using h
end
section
variable {X : Cx}
/-- == of two dicts with the same keys; values: data of any depth -/
def rEqT (K : PySem.W.Frag) : R2 := fun x y H Q => ∃ (a b : Addr) (ka kb : List (List L2.Key × V)) (r : Nat → Bool), x = .ref a ∧ y = .ref b ∧ H a = some (.dT ka) ∧ H b = some (.dT kb) ∧ ka.map (·.1) = kb.map (·.1) ∧
  (∀ i p q, ka[i]? = some p → kb[i]? = some q → ∃ d e, Dp K H p.2 d ∧ Dp K H q.2 e ∧ SeqAt.shaped d = true ∧ SeqAt.shaped e = true ∧ r i = PyData.eqv d e) ∧ Q (.bl ((List.range ka.length).all r)) H
theorem op_eqT (hu : X.A.units + 64 + 2 < cLine) : OpR X (compareOp .Eq) (rEqT X.K) := by
  intro pins s σ H x y v u Q I rx ry h
  obtain ⟨a, b, ka, kb, r, rfl, rfl, hda, hdb, hkeys, hv, q⟩ := h
  cases rx
  cases ry
  obtain ⟨za, ha, xa, ra, da⟩ := dt_of I.hok hda
  obtain ⟨zb, hb, xb, rb, db⟩ := dt_of I.hok hdb
  have keys : ∀ {kvs : List (List L2.Key × V)} {ps : List (List L2.Key × Addr × Value)}, KT H kvs ps → kvs.map (·.1) = ps.map (·.1) := fun {kvs ps} rel => by
    induction rel with
    | nil => rfl
    | cons h t ih => rw [List.map_cons, List.map_cons, ih, h.1]
  have la : ka.length = xa.length := Paired.length ra
  show wpAny (model X.prog X.w) X.A (richCompare .Eq (.ref a) (.ref b)) (EP X pins σ Q) X.xe s
  refine rcH_dicts (knd := tupleKind (mixKind X.prog X.w)) (r := r) (tupleKind_room_in1 (by omega)) ha hb da db ((keys ra).symm.trans (hkeys.trans (keys rb))) (by omega) (fun i x y hx hy => ?_) _ _ ?_
  · have hi : i < ka.length := by
      have := (List.getElem?_eq_some_iff.mp hx).1
      omega
    have hi2 : i < kb.length := by
      have := congrArg List.length hkeys
      simp at this
      omega
    obtain ⟨x', hx', _, _, r1⟩ := paired_get ra (List.getElem?_eq_getElem hi)
    obtain ⟨y', hy', _, _, r2⟩ := paired_get rb (List.getElem?_eq_getElem hi2)
    rw [hx] at hx'
    rw [hy] at hy'
    cases hx'
    cases hy'
    obtain ⟨d, e, hd, he, sd, se, er⟩ := hv i _ _ (List.getElem?_eq_getElem hi) (List.getElem?_eq_getElem hi2)
    obtain ⟨as, q1⟩ := Dp.reads I d _ _ hd r1
    obtain ⟨bs, q2⟩ := Dp.reads I e _ _ he r2
    rw [er]
    exact SeqAt.EqAt.eqP (PySem.W.keq_at (A := X.A) q1 q2 sd se (by show X.A.units + 1 + 64 < cLine; omega))
  · rw [← la]
    exact ⟨.bl _, H, I, rfl, q⟩
end
end Zg
set_option Elab.async false
set_option linter.all false
set_option maxRecDepth 100000
set_option maxHeartbeats 4000000
namespace Zg
open PySem PySem.Calls PySem.Spec PyProof.Rows PyProof.V L2 HT L2.DX
/-! ### None == dict -/
theorem dict_eq_declines_none (d : Addr) (es : Array DictEntry) (ep : Nat) (dd : Option Addr) (sl : Array (Option Value)) : Meets (Builtin.«dict.__eq__» ⟨[.ref d, .none], []⟩) (fun _ R s => s.heap.get? d = some { cls := .type "dict", dict := dd, data := .dict es ep, slots := sl } ∧ R (.ok (.ret .notImplemented)) s) :=
  .of_wp fun prog w A R s h => by
    obtain ⟨hp, g, dr, tk, os⟩ := s
    obtain ⟨hl, h⟩ := h
    show wpAny _ _ (Builtin.Dict.dictSlotArgs "__eq__" ⟨[.ref d, .none], []⟩ >>= _) _ _ _
    refine wpAny_bind ?_
    unfold Builtin.Dict.dictSlotArgs
    refine wpAny_bind (wpAny_notOrdered_dict (s := ⟨hp, g, dr, tk, os⟩) ⟨_, hl, rfl⟩ ?_)
    show wpAny _ _ (pure (Value.ref d, Value.none)) _ _ _
    refine wpAny_pure ?_
    refine wpAny_bind (wpAny_isInstance (T := "NoneType") (b := false) rfl F.sub_NoneType_dict ?_)
    simp only [Bool.not_false, if_true]
    exact wpAny_bind (wpAny_rule (wpAny_pure ⟨_, rfl, h⟩))
section
variable {X : Cx}
theorem op_eqNT (hu : X.A.units < cLine) : OpR X (compareOp .Eq) (fun x y H Q => ∃ (b : Addr) (kb : List (List L2.Key × V)), x = .non ∧ y = .ref b ∧ H b = some (.dT kb) ∧ Q (.bl false) H) := by
  intro pins s σ H x y v u Q I rx ry h
  obtain ⟨b, kb, rfl, rfl, hdb, q⟩ := h
  cases rx
  cases ry
  obtain ⟨zb, hb, xb, rb, db⟩ := dt_of I.hok hdb
  obtain ⟨⟨cls, dd, data, sl⟩, es, ep, ho, hc, hd, _⟩ := id db
  have hc1 : cls = .type "dict" := hc.1
  have hd1 : data = .dict es ep := hd
  subst hc1 hd1
  show wpAny (model X.prog X.w) X.A (richCompare .Eq .none (.ref b)) (EP X pins σ Q) X.xe s
  exact SeqAt.rc_eq_decline_or (k := false) rfl ⟨_, ho, rfl⟩ (by decide) F.sub_dict_NoneType F.slot_NoneType_eq F.slot_dict_eq_refl
    (fun _ hq => call_gives F.slot_NoneType_eq rfl F.entry_NoneType_eq (F.args_NoneType_eq_2 _ _) (SeqAt.NoneType___eq___none_ref_0 b) hq)
    (fun _ hq => call_meets F.slot_dict_eq_refl ⟨_, ho, rfl⟩ F.entry_dict_eq (F.args_dict_eq_2 _ _) (dict_eq_declines_none b es ep dd sl) ⟨ho, hq⟩)
    (fun _ hq => wpAny_of_eq (rfl : isSame .none (.ref b) = pure false) hq) (.inr hu) ⟨.bl false, H, I, rfl, q⟩
/-! ### d.update(e), both with tuples as keys -/
def rUpdT (P : Program) (w : World) : V → List V → Hp → VK → Prop := fun x vs H Q => ∃ (a b : Addr) (ks ls : List (List L2.Key × V)), x = .ref a ∧ vs = [.ref b] ∧ a ≠ b ∧ H a = some (.dT ks) ∧ H b = some (.dT ls) ∧
  ((ks ++ ls).map (·.1)).Nodup ∧ ks.length + ls.length ≤ 1000 ∧ (ks ≠ [] ∨ (ls.map fun p => (tupleKind (mixKind P w)).hash p.1).Nodup) ∧ Q .non (upd H a (.dT (ks ++ ls)))
theorem mt_updT (hu : X.A.units + 1 < cLine) : MtR X "dict.update" (rUpdT X.prog X.w) := by
  intro pins s σ H x xs v us Q I rx rxs h
  obtain ⟨a, b, ks, ls, rfl, rfl, hab, ha, hb, hnd, hlen, hh, q⟩ := h
  cases rx
  obtain ⟨u, rfl, ru⟩ := vals1 rxs
  cases ru
  obtain ⟨za, hsa, xa, ra, da⟩ := dt_of I.hok ha
  obtain ⟨zb, hsb, xb, rb, db⟩ := dt_of I.hok hb
  have keys : ∀ {kvs : List (List L2.Key × V)} {ps : List (List L2.Key × Addr × Value)}, KT H kvs ps → kvs.map (·.1) = ps.map (·.1) := fun {kvs ps} rel => by
    induction rel with
    | nil => rfl
    | cons h t ih => rw [List.map_cons, List.map_cons, ih, h.1]
  have la : ks.length = xa.length := Paired.length ra
  have lb : ls.length = xb.length := Paired.length rb
  have tys : ∀ y ∈ xb, s.TypeIs (.ref y.2.1) "tuple" := fun y hy => by
    obtain ⟨i, hi⟩ := List.mem_iff_getElem?.mp hy
    have hil : i < ls.length := by
      have := (List.getElem?_eq_some_iff.mp hi).1
      omega
    obtain ⟨y', hy', r1, r2, r3⟩ := paired_get rb (List.getElem?_eq_getElem hil)
    rw [hi] at hy'
    cases hy'
    obtain ⟨_, its, rv, ht⟩ := (show ObjOk X.prog X.w H s.heap y.2.1 (.tup _) from I.hok _ _ r2)
    exact ht.typeIs
  refine call_update_dictH (knd := tupleKind (mixKind X.prog X.w)) (tupleKind_room_in1 hu) hab hsb da db ?_ (by rw [← la, ← lb]; exact Nat.le_of_lt (small1000 hlen)) fun h' hd' ho' hs => ?_
  · rcases hh with q1 | q1
    · refine .inl fun e => q1 ?_
      rw [e] at la
      exact List.length_eq_zero_iff.mp la
    · refine .inr ⟨tys, ?_⟩
      have e : (ls.map fun p => (tupleKind (mixKind X.prog X.w)).hash p.1) = xb.map fun x => (tupleKind (mixKind X.prog X.w)).hash x.1 := by
        have e1 := congrArg (List.map (tupleKind (mixKind X.prog X.w)).hash) (keys rb)
        rw [List.map_map, List.map_map] at e1
        exact e1
      rw [← e]
      exact q1
  · rw [storedAll_new xb xa (by rw [List.map_append, ← keys ra, ← keys rb, ← List.map_append]; exact hnd)] at hd'
    obtain ⟨o', es, ep, h1, h2, h3, h4, h5, h6⟩ := hd'
    have J : Inv X pins σ (upd H a (.dT (ks ++ ls))) { s with heap := h' } := by
      refine d_write (t' := s.toks) I (by rw [ha]; exact True.intro) hs ⟨o', h1⟩ ⟨by rw [List.length_append]; exact Nat.le_of_lt (small1000 hlen), hsa, xa ++ xb, ?_, o', es, ep, h1, h2, h3, h4, h6⟩
      have app : ∀ {as bs : List (List L2.Key × V)} {ps qs : List (List L2.Key × Addr × Value)}, KT H as ps → KT H bs qs → KT H (as ++ bs) (ps ++ qs) := fun {as bs ps qs} r1 r2 => by
        induction r1 with
        | nil => exact r2
        | cons h t ih => exact .cons h ih
      refine (app ra rb).keeps fun c ys ec => ?_
      rw [upd_ne (ne_of ec ha (fun z => nomatch z))]
      exact ec
    exact ⟨.non, _, J, rfl, q⟩
end
/-! ### enumerate(tuple) -/
theorem meets_enumerate_newT (l : Addr) (items : Array Value) (n : Nat) (dct : Option Addr) (sl : Array (Option Value)) :
    Meets (Builtin.«enumerate.__new__» ⟨[.type "enumerate", .ref l], []⟩) (fun _ R s => s.heap.get? l = some { cls := .type "tuple", dict := dct, data := .seq items n, slots := sl } ∧
      R (.ok (.ret (.ref (s.heap.push { cls := .type "tuple_iterator", data := .fields #[.ref l, .int 0 0] }).objs.size)))
        { s with heap := (s.heap.push { cls := .type "tuple_iterator", data := .fields #[.ref l, .int 0 0] }).push { cls := .type "enumerate", data := .fields #[.none, .bool false, .ref s.heap.objs.size, rawInt 0, .none, .none] } }) :=
  .of_wp fun prog w A R s h => by
    obtain ⟨hp, g, d, tk, os⟩ := s; obtain ⟨hl, h⟩ := h
    have hsub := sub_enumerate
    have hL : Heap.IsTuple (Shared.heap ⟨hp, g, d, tk, os⟩) l items := ⟨_, hl, rfl, n, rfl⟩
    wp_walk using wpAny_loadPart' hl
    refine wpAny_stack_any fun st => wpAny_pure ?_
    split
    · rename_i c _ _ _ _ _
      cases (c == Value.type "enumerate")
      · wp_walk using wpAny_loadPart' hl, wpAny_pyIter_tuple hL
        exact ⟨_, rfl, h⟩
      · wp_walk using wpAny_loadPart' hl, wpAny_pyIter_tuple hL
        exact ⟨_, rfl, h⟩
    · wp_walk using wpAny_loadPart' hl, wpAny_pyIter_tuple hL
      exact ⟨_, rfl, h⟩
section
variable {prog : Program} {w : World} {A : Around} {E : Value → Shared → Prop} {s : Shared}
theorem call_enumerate_tuple {l : Addr} {items : Array Value} {Q : Value → Shared → Prop} (hL : s.heap.IsTuple l items)
    (h : ∀ h', IsEnum h' (s.heap.objs.size + 1) s.heap.objs.size 0 .none → h'.IsTupleIter s.heap.objs.size l 0 → h'.objs.size = s.heap.objs.size + 2 →
      (∀ b o, s.heap.get? b = some o → h'.get? b = some o) → Q (.ref (s.heap.objs.size + 1)) { s with heap := h' }) :
    wpAny (model prog w) A (call (.type "enumerate") [.ref l]) Q E s := by
  obtain ⟨⟨c, dct, dt, sl⟩, hl, hc, n, hd⟩ := hL
  replace hc : c = .type "tuple" := hc
  replace hd : dt = .seq items n := hd
  subst hc hd
  refine callType_new F.called_enumerate (by decide) (F.typeCall_enumerate_1 _) (F.newCall_enumerate_1 _) (fun obj => F.args_object_init_2 obj _) F.entry_enumerate_new
    (meets_enumerate_newT l items n dct sl) ⟨hl, ?_⟩
  have hz : (s.heap.push { cls := .type "tuple_iterator", data := .fields #[.ref l, .int 0 0] }).objs.size = s.heap.objs.size + 1 := Heap.size_push ..
  show _ ∧ _
  rw [hz]
  have he : IsEnum ((s.heap.push { cls := .type "tuple_iterator", data := .fields #[.ref l, .int 0 0] }).push
      { cls := .type "enumerate", data := .fields #[.none, .bool false, .ref s.heap.objs.size, rawInt 0, .none, .none] }) (s.heap.objs.size + 1) s.heap.objs.size 0 .none := by
    have := Heap.get?_push_size (s.heap.push { cls := .type "tuple_iterator", data := .fields #[.ref l, .int 0 0] })
      (o := { cls := .type "enumerate", data := .fields #[.none, .bool false, .ref s.heap.objs.size, rawInt 0, .none, .none] }) rfl
    rw [hz] at this; exact this
  refine ⟨⟨_, he, rfl⟩, h _ he ⟨_, Heap.get?_push_of_some _ (Heap.get?_push_size _ rfl), rfl, rfl⟩ (by rw [Heap.size_push, hz]) fun b o x => Heap.get?_push_of_some _ (Heap.get?_push_of_some _ x)⟩
end
/-- the tuple at a as it stands at each turn, each item in a new pair -/
def IteT (K : PySem.W.Frag) (a : Addr) : It :=
  ⟨fun i H => ∃ (xs : List V) (x : V), SqT K H a xs ∧ xs[i]? = some x, fun i H v H' => ∃ T x, v = .ref T ∧ H T = none ∧ H' = upd H T (.tup [.int (i : Nat), x]) ∧ ∀ xs, SqT K H a xs → xs[i]? = some x, fun i H => ∃ xs : List V, SqT K H a xs ∧ xs.length ≤ i⟩
theorem turn_enumT {P : Program} {w : World} {K : PySem.W.Frag} {elts : List Expr} {kk : Nat} {tpos : Pos} (a e it : Addr) :
    Turn P w K (.Tuple elts kk tpos) (IteT K a) [e, it] e (fun i h => (∃ old, IsEnum h e it ((i : Nat) : Int) old) ∧ h.IsTupleIter it a i ∧ e ≠ it) where
  mem := by simp
  obj := fun i h st b hb => by
    obtain ⟨⟨old, he⟩, ⟨o, ho, hc, hd⟩, _⟩ := st
    have e' : b = e ∨ b = it := by simpa using hb
    rcases e' with z | z
    · rw [z]; exact ⟨_, he, fun v q => nomatch q⟩
    · rw [z]; exact ⟨o, ho, fun v q => by rw [hd] at q; cases q⟩
  keep := fun i h h' st k => let ⟨⟨old, he⟩, hi, hne⟩ := st; ⟨⟨old, k e (by simp) _ he⟩, hi.at fun o q => k it (by simp) o q, hne⟩
  item := by
    intro X hP hw hK hc i pins s σ H E I hf st hg
    subst hP hw hK
    obtain ⟨⟨old, he⟩, hit, hne⟩ := st
    obtain ⟨xs, x, hq, hx⟩ := hg
    obtain ⟨its, rv, p, hz⟩ := I.tuple hq
    obtain ⟨u, hu, ru⟩ := rv.get hx
    have hel : e < s.heap.objs.size := Heap.lt_size he
    have hil : it < s.heap.objs.size := by obtain ⟨_, q, _⟩ := hit; exact Heap.lt_size q
    obtain ⟨op, hop, hcp, _⟩ := id p
    obtain ⟨oi, hoi, hci, _⟩ := id hit
    have hai : a ≠ it := fun z => by
      rw [z, hoi] at hop
      cases hop
      rw [hci] at hcp
      exact absurd hcp (by decide)
    have hae : e ≠ a := fun z => by
      have he1 := he
      unfold IsEnum at he1
      rw [z, hop] at he1
      cases he1
      exact absurd (show Value.type "enumerate" = Value.type "tuple" from hcp) (by decide)
    have hlt : i < its.toArray.size := by
      have := (List.getElem?_eq_some_iff.mp hx).1
      have := rv.length
      simp
      omega
    refine wpAny_pyNext_enum_itemD (Draws.tuple (A := X.A.in1) (I.ok.hd hc) it a hai its.toArray) he ⟨hit, p⟩ hlt hne (by simp [hne, hae]) fun x2 h' tk hx2 ho hst' hT hsz hk => ?_
    have ex : x2 = u := by
      have hx2 : its.toArray[i]? = some x2 := hx2
      have hu' : its.toArray[i]? = some u := by simpa using hu
      rw [hu'] at hx2
      exact (Option.some.inj hx2).symm
    subst ex
    obtain ⟨hit', p'⟩ := hst'
    refine ⟨_, rfl, wpAny_letOwnedTupleGo_enum (s := { s with heap := h', toks := tk + 1 }) ho fun h'' he' sb => ?_⟩
    have hT2 : h''.get? s.heap.objs.size = some { cls := .type "tuple", data := .seq #[.int i tk, x2] } := (sb.2 _ (Nat.ne_of_gt hel)).trans hT
    have new : ObjOk X.prog X.w (upd H s.heap.objs.size (.tup [.int (i : Nat), x])) h'' s.heap.objs.size (.tup [.int (i : Nat), x]) :=
      ⟨by show 2 ≤ sizeLine; decide, [.int i tk, x2], .cons ⟨_, rfl⟩ (.cons ru .nil), ⟨_, hT2, rfl, _, rfl⟩⟩
    have I1 : Inv X pins σ (upd H s.heap.objs.size (.tup [.int (i : Nat), x])) { s with heap := h'', toks := tk + 1 } :=
      I.turnedNew (ch := [e, it]) (fun b ob hb q => (sb.2 b (fun z => hb (by simp [z]))).trans (hk b ob (fun z => hb (by simp [z])) (fun z => hb (by simp [z])) q)) hf (Nat.le_refl _) new
    refine ⟨.ref s.heap.objs.size, _, I1, rfl, ⟨_, x, rfl, I.hok.fresh (Nat.le_refl _), rfl, fun ys hy => by rw [I.tuple_inj hy hq]; exact hx⟩, ⟨⟨x2, ?_⟩, hit'.at fun o q => (sb.2 it (Ne.symm hne)).trans q, hne⟩, fun b hb => ?_⟩
    · have e1 : ((i + 1 : Nat) : Int) = (i : Int) + 1 := by omega
      rw [e1]; exact he'
    · have hb' : b < s.heap.objs.size := by
        have e' : b = e ∨ b = it := by simpa using hb
        rcases e' with z | z
        · rw [z]; exact hel
        · rw [z]; exact hil
      rw [upd_ne (Nat.ne_of_lt hb')]
      exact (hf b hb).1
  done := by
    intro X hP hw hK hc i pins s σ H E I hf st hg
    subst hP hw hK
    obtain ⟨⟨old, he⟩, hit, hne⟩ := st
    obtain ⟨xs, hq, hx⟩ := hg
    obtain ⟨its, rv, p, hz⟩ := I.tuple hq
    obtain ⟨f0, f1, f2, f3, f4, f5⟩ := hf it (by simp)
    have hl := rv.length
    obtain ⟨op, hop, hcp, _⟩ := id p
    obtain ⟨oi, hoi, hci, _⟩ := id hit
    have hai : a ≠ it := fun z => by
      rw [z, hoi] at hop
      cases hop
      rw [hci] at hcp
      exact absurd hcp (by decide)
    have hT : s.TypeIs (.ref e) "enumerate" := ⟨_, he, rfl⟩
    unfold pyNext
    refine wpAny_bind (wpAny_attempt (wpAny_callSpecial?_slot (name := Str.ofString "__next__") hT F.slot_enumerate_next
      (wpAny_call_entry F.slot_enumerate_next hT F.entry_enumerate_next ?_ (F.args_enumerate_next_1 _))))
    show wpAny _ _ (field (.ref e) 2 >>= _) _ _ _
    refine wpAny_bind (wpAny_field he rfl (x := .ref it) rfl ?_)
    refine wpAny_bind (wpAny_nextOf_tuple_end (A := X.A.in1) (I.ok.hd hc) hit p (by simp; omega) fun h' x he' hx' => ?_)
    obtain ⟨o, ho, hc'⟩ := hx'
    refine wpAny_bind (wpAny_isInstance (T := "StopIteration") (b := true) ⟨o, ho, hc'⟩ isSubtype_stop ?_)
    exact wpAny_pure ⟨rfl, I.turned (t' := s.toks) (fun b o hb q => he' b o hb q) f0 f1 f3 f4 f5⟩
  self := fun A i s Q E st h => let ⟨⟨_, he⟩, _⟩ := st; wpAny_pyIter_enum he h
def iEnumT (K : PySem.W.Frag) (ta : TA) : TI := fun σ H R => ta σ H fun vs H1 => ∃ a xs, vs = [.ref a] ∧ SqT K H1 a xs ∧ R (IteT K a) H1
theorem pi_enumT {X : Cx} {e : Expr} {ta : TA} {p pos tpos : Pos} {elts : List Expr} {kk : Nat} (hg : Gl X "enumerate") (hm : X.mg "enumerate" = none) (ha : PA X [e] ta) (hs : starEach [e] X.env = [(false, eval e X.env)] := by rfl) :
    PI X (.Tuple elts kk tpos) (.Call (.Name "enumerate" p) [e] [] pos) (iEnumT X.K ta) := by
  refine ⟨fun pins s σ H R I h => ?_⟩
  refine Call_ (ld_blt I hg hm boot_enumerate (PyProof.Rows.callWith_type1 (thn (ha.run pos pins s σ H _ I h) fun us s1 ⟨vs, H1, I1, r1, q1⟩ => ?_) hs rfl))
  obtain ⟨a, xs, ex, hq, q⟩ := q1
  subst ex
  cases r1 with
  | cons r rr =>
    cases rr
    cases r
    obtain ⟨its, rv, p', hz⟩ := I1.tuple hq
    refine call_enumerate_tuple (show s1.heap.IsTuple a its.toArray from p') fun h' he hit hsz hk => wpAny_pyIter_enum he ?_
    have I2 : Inv X pins σ H1 { s1 with heap := h' } := I1.kept (t' := s1.toks) hk
    refine ⟨s1.heap.objs.size + 1, [s1.heap.objs.size + 1, s1.heap.objs.size], _, _, H1, rfl, I2, turn_enumT a (s1.heap.objs.size + 1) s1.heap.objs.size, ⟨⟨.none, he⟩, hit, Nat.succ_ne_self _⟩, fun b hb => ?_, q⟩
    have e' : b = s1.heap.objs.size + 1 ∨ b = s1.heap.objs.size := by simpa using hb
    have hle : s1.heap.objs.size ≤ b := by
      rcases e' with z | z
      · rw [z]; exact Nat.le_add_right _ _
      · rw [z]; exact Nat.le_refl _
    exact I1.fpOk hle (I1.hok.fresh hle)
end Zg
set_option Elab.async false
set_option linter.all false
set_option maxRecDepth 100000
set_option maxHeartbeats 4000000
namespace Zb
open PySem PySem.Spec PyProof.Rows L2 L2.DX Zg Evl
open StX (pa_star tStar)
open RZ (pi_zipA iZipA ItzT)
/-! ### the text by places -/
def topS (i : Nat) : Stmt := PySem.Challenge.pw_holdsfailsopen_k35_whole_zones_by_least.main.body.getD i (.Pass ⟨0, 0, 0, 0⟩)
abbrev s_is_integer : Stmt := topS 8
abbrev N_is_integer : List Str := ["value"]
theorem sc_is_integer : FnScope N_is_integer ["value"] (defScope s_is_integer) := ⟨rfl, rfl, rfl, by decide +kernel, rfl, by decide +kernel, by decide +kernel⟩
abbrev s_is_between : Stmt := topS 9
abbrev N_is_between : List Str := ["value", "low", "high"]
theorem sc_is_between : FnScope N_is_between ["value", "low", "high"] (defScope s_is_between) := ⟨rfl, rfl, rfl, by decide +kernel, rfl, by decide +kernel, by decide +kernel⟩
abbrev s_common : Stmt := topS 10
abbrev N_common : List Str := ["one", "other"]
theorem sc_common : FnScope N_common ["one", "other"] (defScope s_common) := ⟨rfl, rfl, rfl, by decide +kernel, rfl, by decide +kernel, by decide +kernel⟩
abbrev s_is_fraction : Stmt := topS 11
abbrev N_is_fraction : List Str := ["value"]
theorem sc_is_fraction : FnScope N_is_fraction ["value"] (defScope s_is_fraction) := ⟨rfl, rfl, rfl, by decide +kernel, rfl, by decide +kernel, by decide +kernel⟩
abbrev s_bound_of : Stmt := topS 22
abbrev N_bound_of : List Str := ["number", "is_reached"]
theorem sc_bound_of : FnScope N_bound_of ["number", "is_reached"] (defScope s_bound_of) := ⟨rfl, rfl, rfl, by decide +kernel, rfl, by decide +kernel, by decide +kernel⟩
abbrev s_sum_of_bounds : Stmt := topS 23
abbrev N_sum_of_bounds : List Str := ["one", "other"]
theorem sc_sum_of_bounds : FnScope N_sum_of_bounds ["one", "other"] (defScope s_sum_of_bounds) := ⟨rfl, rfl, rfl, by decide +kernel, rfl, by decide +kernel, by decide +kernel⟩
abbrev s_side_of : Stmt := topS 24
abbrev N_side_of : List Str := ["zone", "found"]
theorem sc_side_of : FnScope N_side_of ["zone"] (defScope s_side_of) := ⟨rfl, rfl, rfl, by decide +kernel, rfl, by decide +kernel, by decide +kernel⟩
abbrev s_tight : Stmt := topS 25
abbrev N_tight : List Str := ["bounds", "size", "middle", "row", "column", "by"]
theorem sc_tight : FnScope N_tight ["bounds", "size"] (defScope s_tight) := ⟨rfl, rfl, rfl, by decide +kernel, rfl, by decide +kernel, by decide +kernel⟩
abbrev s_begin_zone : Stmt := topS 26
abbrev N_begin_zone : List Str := ["many"]
theorem sc_begin_zone : FnScope N_begin_zone ["many"] (defScope s_begin_zone) := ⟨rfl, rfl, rfl, by decide +kernel, rfl, by decide +kernel, by decide +kernel⟩
abbrev s_passed : Stmt := topS 27
abbrev N_passed : List Str := ["zone", "size", "found", "row"]
theorem sc_passed : FnScope N_passed ["zone"] (defScope s_passed) := ⟨rfl, rfl, rfl, by decide +kernel, rfl, by decide +kernel, by decide +kernel⟩
abbrev s_guarded : Stmt := topS 28
abbrev N_guarded : List Str := ["zone", "clocks", "guard", "size", "found", "clock", "compare", "number", "at", "is_reached", "place", "bound"]
theorem sc_guarded : FnScope N_guarded ["zone", "clocks", "guard"] (defScope s_guarded) := ⟨rfl, rfl, rfl, by decide +kernel, rfl, by decide +kernel, by decide +kernel⟩
abbrev s_set_back : Stmt := topS 29
abbrev N_set_back : List Str := ["zone", "clocks", "resets", "size", "found", "clock", "at", "other"]
theorem sc_set_back : FnScope N_set_back ["zone", "clocks", "resets"] (defScope s_set_back) := ⟨rfl, rfl, rfl, by decide +kernel, rfl, by decide +kernel, by decide +kernel⟩
abbrev s_lies_within : Stmt := topS 30
abbrev N_lies_within : List Str := ["one", "other", "mine", "its"]
theorem sc_lies_within : FnScope N_lies_within ["one", "other"] (defScope s_lies_within) := ⟨rfl, rfl, rfl, by decide +kernel, rfl, by decide +kernel, by decide +kernel⟩
abbrev s_is_zone_of : Stmt := topS 31
abbrev N_is_zone_of : List Str := ["many", "value", "size", "column", "bound", "at"]
theorem sc_is_zone_of : FnScope N_is_zone_of ["many", "value"] (defScope s_is_zone_of) := ⟨rfl, rfl, rfl, by decide +kernel, rfl, by decide +kernel, by decide +kernel⟩
abbrev s_is_zone : Stmt := topS 32
abbrev N_is_zone : List Str := ["value", "many"]
theorem sc_is_zone : FnScope N_is_zone ["value"] (defScope s_is_zone) := ⟨rfl, rfl, rfl, by decide +kernel, rfl, by decide +kernel, by decide +kernel⟩
abbrev s_check_zone : Stmt := topS 33
abbrev N_check_zone : List Str := ["zone"]
theorem sc_check_zone : FnScope N_check_zone ["zone"] (defScope s_check_zone) := ⟨rfl, rfl, rfl, by decide +kernel, rfl, by decide +kernel, by decide +kernel⟩
abbrev s_has_values : Stmt := topS 34
abbrev N_has_values : List Str := ["zone", "values", "size", "every", "row", "column", "bound", "top", "low", "less", "under", "by", "most"]
theorem sc_has_values : FnScope N_has_values ["zone", "values"] (defScope s_has_values) := ⟨rfl, rfl, rfl, by decide +kernel, rfl, by decide +kernel, by decide +kernel⟩
abbrev s_first_zone : Stmt := topS 35
abbrev N_first_zone : List Str := ["many"]
theorem sc_first_zone : FnScope N_first_zone ["many"] (defScope s_first_zone) := ⟨rfl, rfl, rfl, by decide +kernel, rfl, by decide +kernel, by decide +kernel⟩
abbrev s_later_zone : Stmt := topS 36
abbrev N_later_zone : List Str := ["zone"]
theorem sc_later_zone : FnScope N_later_zone ["zone"] (defScope s_later_zone) := ⟨rfl, rfl, rfl, by decide +kernel, rfl, by decide +kernel, by decide +kernel⟩
abbrev s_are_bounds : Stmt := topS 37
abbrev N_are_bounds : List Str := ["many", "value", "row"]
theorem sc_are_bounds : FnScope N_are_bounds ["many", "value"] (defScope s_are_bounds) := ⟨rfl, rfl, rfl, by decide +kernel, rfl, by decide +kernel, by decide +kernel⟩
abbrev s_zone_with : Stmt := topS 38
abbrev N_zone_with : List Str := ["zone", "guard", "many", "found", "bound"]
theorem sc_zone_with : FnScope N_zone_with ["zone", "guard"] (defScope s_zone_with) := ⟨rfl, rfl, rfl, by decide +kernel, rfl, by decide +kernel, by decide +kernel⟩
abbrev s_zone_set : Stmt := topS 39
abbrev N_zone_set : List Str := ["zone", "places", "many", "place"]
theorem sc_zone_set : FnScope N_zone_set ["zone", "places"] (defScope s_zone_set) := ⟨rfl, rfl, rfl, by decide +kernel, rfl, by decide +kernel, by decide +kernel⟩
abbrev s_is_zone_within : Stmt := topS 40
abbrev N_is_zone_within : List Str := ["one", "other"]
theorem sc_is_zone_within : FnScope N_is_zone_within ["one", "other"] (defScope s_is_zone_within) := ⟨rfl, rfl, rfl, by decide +kernel, rfl, by decide +kernel, by decide +kernel⟩
abbrev s_is_in_zone : Stmt := topS 41
abbrev N_is_in_zone : List Str := ["zone", "values", "one"]
theorem sc_is_in_zone : FnScope N_is_in_zone ["zone", "values"] (defScope s_is_in_zone) := ⟨rfl, rfl, rfl, by decide +kernel, rfl, by decide +kernel, by decide +kernel⟩
abbrev s__law_pot_of : Stmt := topS 43
abbrev N__law_pot_of : List Str := ["script", "k", "cell", "own"]
theorem sc__law_pot_of : FnScope N__law_pot_of ["script", "k"] (defScope s__law_pot_of) := ⟨rfl, rfl, rfl, by decide +kernel, rfl, by decide +kernel, by decide +kernel⟩
abbrev s__law_take : Stmt := topS 44
abbrev N__law_take : List Str := ["pot", "upto", "digit", "prime", "mixed"]
theorem sc__law_take : FnScope N__law_take ["pot", "upto"] (defScope s__law_take) := ⟨rfl, rfl, rfl, by decide +kernel, rfl, by decide +kernel, by decide +kernel⟩
abbrev s__law_of : Stmt := topS 45
abbrev N__law_of : List Str := ["pot", "some"]
theorem sc__law_of : FnScope N__law_of ["pot", "some"] (defScope s__law_of) := ⟨rfl, rfl, rfl, by decide +kernel, rfl, by decide +kernel, by decide +kernel⟩
abbrev s__law_both : Stmt := topS 46
abbrev N__law_both : List Str := ["one", "other"]
theorem sc__law_both : FnScope N__law_both ["one", "other"] (defScope s__law_both) := ⟨rfl, rfl, rfl, by decide +kernel, rfl, by decide +kernel, by decide +kernel⟩
abbrev s__law_is_less : Stmt := topS 47
abbrev N__law_is_less : List Str := ["one", "other"]
theorem sc__law_is_less : FnScope N__law_is_less ["one", "other"] (defScope s__law_is_less) := ⟨rfl, rfl, rfl, by decide +kernel, rfl, by decide +kernel, by decide +kernel⟩
abbrev s__law_tight : Stmt := topS 48
abbrev N__law_tight : List Str := ["square", "many", "found", "by", "row", "column", "its", "at"]
theorem sc__law_tight : FnScope N__law_tight ["square", "many"] (defScope s__law_tight) := ⟨rfl, rfl, rfl, by decide +kernel, rfl, by decide +kernel, by decide +kernel⟩
abbrev s__law_told : Stmt := topS 49
abbrev N__law_told : List Str := ["square", "many", "row", "at", "to", "bound"]
theorem sc__law_told : FnScope N__law_told ["square", "many"] (defScope s__law_told) := ⟨rfl, rfl, rfl, by decide +kernel, rfl, by decide +kernel, by decide +kernel⟩
abbrev s__law_square : Stmt := topS 50
abbrev N__law_square : List Str := ["zone", "many", "found", "at", "to", "number"]
theorem sc__law_square : FnScope N__law_square ["zone", "many"] (defScope s__law_square) := ⟨rfl, rfl, rfl, by decide +kernel, rfl, by decide +kernel, by decide +kernel⟩
abbrev s__law_later : Stmt := topS 51
abbrev N__law_later : List Str := ["square", "many", "found", "row"]
theorem sc__law_later : FnScope N__law_later ["square", "many"] (defScope s__law_later) := ⟨rfl, rfl, rfl, by decide +kernel, rfl, by decide +kernel, by decide +kernel⟩
abbrev s__law_kept : Stmt := topS 52
abbrev N__law_kept : List Str := ["square", "many", "guard", "found", "place", "compare", "number", "pair", "bound"]
theorem sc__law_kept : FnScope N__law_kept ["square", "many", "guard"] (defScope s__law_kept) := ⟨rfl, rfl, rfl, by decide +kernel, rfl, by decide +kernel, by decide +kernel⟩
abbrev s__law_put_back : Stmt := topS 53
abbrev N__law_put_back : List Str := ["square", "many", "places", "found", "place", "at", "other"]
theorem sc__law_put_back : FnScope N__law_put_back ["square", "many", "places"] (defScope s__law_put_back) := ⟨rfl, rfl, rfl, by decide +kernel, rfl, by decide +kernel, by decide +kernel⟩
abbrev s__law_holds : Stmt := topS 54
abbrev N__law_holds : List Str := ["square", "many", "values", "every", "row", "column", "bound", "gap", "most"]
theorem sc__law_holds : FnScope N__law_holds ["square", "many", "values"] (defScope s__law_holds) := ⟨rfl, rfl, rfl, by decide +kernel, rfl, by decide +kernel, by decide +kernel⟩
abbrev s__law_is_zone : Stmt := topS 55
abbrev N__law_is_zone : List Str := ["value", "many", "square", "at"]
theorem sc__law_is_zone : FnScope N__law_is_zone ["value", "many"] (defScope s__law_is_zone) := ⟨rfl, rfl, rfl, by decide +kernel, rfl, by decide +kernel, by decide +kernel⟩
abbrev s__law_value : Stmt := topS 56
abbrev N__law_value : List Str := ["pot", "top", "low", "one", "other"]
theorem sc__law_value : FnScope N__law_value ["pot"] (defScope s__law_value) := ⟨rfl, rfl, rfl, by decide +kernel, rfl, by decide +kernel, by decide +kernel⟩
abbrev s__law_plus : Stmt := topS 57
abbrev N__law_plus : List Str := ["one", "other", "top", "low", "first", "last"]
theorem sc__law_plus : FnScope N__law_plus ["one", "other"] (defScope s__law_plus) := ⟨rfl, rfl, rfl, by decide +kernel, rfl, by decide +kernel, by decide +kernel⟩
abbrev s__law_guard : Stmt := topS 58
abbrev N__law_guard : List Str := ["pot", "clocks", "found", "lap"]
theorem sc__law_guard : FnScope N__law_guard ["pot", "clocks"] (defScope s__law_guard) := ⟨rfl, rfl, rfl, by decide +kernel, rfl, by decide +kernel, by decide +kernel⟩
abbrev s__law_right : Stmt := topS 59
abbrev N__law_right : List Str := ["pot", "clocks", "many", "zone", "square", "at", "lap", "way", "before", "values", "by", "guard", "its", "told", "alone", "kept", "places", "here", "place", "back", "bent", "clock", "to", "spot", "one", "mine"]
theorem sc__law_right : FnScope N__law_right ["pot"] (defScope s__law_right) := ⟨rfl, rfl, rfl, by decide +kernel, rfl, by decide +kernel, by decide +kernel⟩
abbrev s__law_free : Stmt := topS 60
abbrev N__law_free : List Str := ["many", "found", "at", "to"]
theorem sc__law_free : FnScope N__law_free ["many"] (defScope s__law_free) := ⟨rfl, rfl, rfl, by decide +kernel, rfl, by decide +kernel, by decide +kernel⟩
abbrev s_law : Stmt := topS 61
abbrev N_law : List Str := ["script", "k"]
theorem sc_law : FnScope N_law ["script"] (defScope s_law) := ⟨rfl, rfl, rfl, by decide +kernel, rfl, by decide +kernel, by decide +kernel⟩
/-! ### a def that may be called by its name -/
structure Cl (P : Program) (w : World) (K : PySem.W.Frag) (mg : Str → Option Value) (base : Heap) (k : Nat) (x : Str) (sp : Sp) : Prop where
  ex : ∃ (f : Addr) (fd : FuncData) (ps : List Str), FnOk P w K mg base CX0 k f fd ps sp ∧ mg x = some (.ref f) ∧ PySem.W.keepIn K (.ref f) = true ∧ Binds K fd ps []
/-- a def of the text, as the top has left it -/
structure Df (K : PySem.W.Frag) (mg : Str → Option Value) (x : Str) (st : Stmt) (ps : List Str) : Prop where
  ex : ∃ (f : Addr) (fd : FuncData), Fun K x x st f fd ∧ mg x = some (.ref f) ∧ Binds K fd ps []
section
variable {P : Program} {w : World} {K : PySem.W.Frag} {mg : Str → Option Value} {base : Heap}
theorem Df.cl {x : Str} {st : Stmt} {N ps : List Str} {k : Nat} {sp : Sp} (D : Df K mg x st ps) (S : FnScope N ps (defScope st)) (len : ∀ vs H Q E, sp vs H Q E → vs.length = ps.length)
    (hbody : ∀ (f : Addr) (cdv : Value) (A : Around) (outer : List Env) (s : Shared) (H : Hp) (vs : List V) (Q : VK) (E : XK), Room k (A.deeper (envOfC x (defScope st) s.heap.objs.size f cdv)) → sp vs H Q E →
      ∃ t, PSs (cxOf CX0 P w K mg base N x (defScope st) f cdv A outer s H E).nox (defBody st) t ∧ t { nx := fun _ H' => Q .non H', rt := Q } (start N vs) H) : Cl P w K mg base (k + 1) x sp := by
  obtain ⟨f, fd, F, m, b⟩ := D.ex
  exact ⟨f, fd, ps, F.ok S len (hbody f), m, F.kp, b⟩
end
section
variable {X : Cx} {k j : Nat} {x : Str} {sp : Sp} {p pos : Pos} {e : Expr} {es : List Expr} {t : TA}
theorem pe_cl (c : Cl X.prog X.w X.K X.mg X.base k x sp) (hr : Room j X.A) (hk : k ≤ j) (hg : Gl X x) (ha : PA X (e :: es) t)
    (hdb : (x == ("__debug__" : Str)) = false := by decide) (he : starEach (e :: es) X.env = (false, eval e X.env) :: starEach es X.env := by rfl) (hpl : (backTo pos (starEach es X.env)).any (·.1) = false := by rfl) :
    PE X (.Call (.Name x p) (e :: es) [] pos) (tCall sp [] E0 t) := by
  obtain ⟨f, fd, ps, F, hm, kp, b⟩ := c.ex
  exact pe_call F (hr.mono hk) hg hm kp b .nil pass0 ha hdb he hpl
theorem pe_gint {i : Int} (hm : ∃ t, X.mg x = some (.int i t)) (hg : Gl X x := by rfl) (hd : (x == ("__debug__" : Str)) = false := by decide) : PE X (.Name x pos) (tC (.int i)) := by
  obtain ⟨t, hm⟩ := hm
  exact pe_glob hg hm ⟨t, rfl⟩ hd
theorem pe_gref {a : Addr} (hm : X.mg x = some (.ref a)) (hg : Gl X x := by rfl) (hd : (x == ("__debug__" : Str)) = false := by decide) : PE X (.Name x pos) (tC (.ref a)) := pe_glob hg hm rfl hd
theorem pe_gty {n : String} (hm : X.mg x = none) (hv : bootBuiltins x = some (.type n)) (hg : Gl X x := by rfl) (hn : x ≠ "__name__" := by decide) (hd : (x == ("__debug__" : Str)) = false := by decide) : PE X (.Name x pos) (tC (.ty n)) := pe_bltn hg hm hv rfl hn hd
theorem tgK {K : PySem.W.Frag} {u : TGs} {n m : Nat} (hc : X.calm = true) (h : PGs X es u) (hK : X.K = K := by rfl) (hn : (assignEach es X.env).length = n := by rfl) (hst : (assignEach es X.env).findIdx? (·.1) = none := by rfl) : PG X (.Tuple es m pos) (gTup K n u) := by
  subst hK
  exact pg_tup hc h hn hst
theorem ixL {K : PySem.W.Frag} (h : X.K = K := by rfl) : IxR X (rIxL K) := by
  subst h
  exact ix_list
theorem ixT {K : PySem.W.Frag} (h : X.K = K := by rfl) : IxR X (rIxT K) := by
  subst h
  exact ix_tup
theorem isiK {K : PySem.W.Frag} (h : X.K = K := by rfl) : CallR X (.builtin "isinstance") (rIsi K) := by
  subst h
  exact call_isi
theorem lenK {K : PySem.W.Frag} (h : X.K = K := by rfl) : CallR X (.builtin "len") (rLenS K) := by
  subst h
  exact call_len_seq
theorem inK {K : PySem.W.Frag} (h : X.K = K := by rfl) : OpR X (compareOp .In) (rIn K false) := by
  subst h
  exact op_in_seq
theorem eqDK {K : PySem.W.Frag} (hu : X.A.units + 64 < cLine) (h : X.K = K := by rfl) : OpR X (compareOp .Eq) (rEqD K) := by
  subst h
  exact op_eqD hu
theorem neDK {K : PySem.W.Frag} (hu : X.A.units + 64 < cLine) (h : X.K = K := by rfl) : OpR X (compareOp .NotEq) (rNeD K) := by
  subst h
  exact op_neD hu
theorem listK {K : PySem.W.Frag} (h : X.K = K := by rfl) : CallR X (.type "list") (rListS K) := by
  subst h
  exact call_list_of
/-- tuple(a list) -/
def rTupS (K : PySem.W.Frag) : List V → Hp → VK → Prop := fun xs H Q => ∃ p ys, xs = [.ref p] ∧ ((SqL K H p ys ∧ ∀ l, H l = none → Q (.ref l) (upd H l (.tup ys))) ∨ (SqT K H p ys ∧ Q (.ref p) H))
theorem tupK {K : PySem.W.Frag} (h : X.K = K := by rfl) : CallR X (.type "tuple") (rTupS K) := by
  subst h
  exact call_tuple_of
theorem anyK {K : PySem.W.Frag} (hc : X.calm = true) (h : X.K = K := by rfl) : CallR X (.builtin "any") (rAny K) := by
  subst h
  exact cr_any hc
theorem allK {K : PySem.W.Frag} (hc : X.calm = true) (h : X.K = K := by rfl) : CallR X (.builtin "all") (rAll K) := by
  subst h
  exact cr_all hc
theorem catK {K : PySem.W.Frag} (h : X.K = K := by rfl) : OpR X (binaryOp .Add) (rCatA K) := by
  subst h
  exact op_catA
theorem slK {K : PySem.W.Frag} (h : X.K = K := by rfl) : SlR X (rSlA K) := by
  subst h
  exact sl_tupA
theorem op_eqDic (hu : X.A.units + 66 < cLine) : OpR X (compareOp .Eq) (fun x y H Q => rEqT X.K x y H Q ∨ ∃ (b : Addr) (kb : List (List L2.Key × V)), x = .non ∧ y = .ref b ∧ H b = some (.dT kb) ∧ Q (.bl false) H) :=
  OpR.or (op_eqT hu) (op_eqNT (by omega))
end
theorem hu64 {A : Around} {k : Nat} (hr : Room k A) : A.units + 64 < cLine := hr.units
theorem hu66 {A : Around} {k : Nat} (hr : Room k A) : A.units + 66 < cLine := Nat.lt_of_le_of_lt (by omega) hr.un
/-- what the top has left: names that are the built-in ones, constants -/
structure Tx (K : PySem.W.Frag) (mg : Str → Option Value) (aU aC : Addr) : Prop where
  n_isinstance : mg "isinstance" = none
  n_int : mg "int" = none
  n_bool : mg "bool" = none
  n_str : mg "str" = none
  n_abs : mg "abs" = none
  n_tuple : mg "tuple" = none
  n_len : mg "len" = none
  n_list : mg "list" = none
  n_range : mg "range" = none
  n_min : mg "min" = none
  n_max : mg "max" = none
  n_any : mg "any" = none
  n_all : mg "all" = none
  n_zip : mg "zip" = none
  n_dict : mg "dict" = none
  n_enumerate : mg "enumerate" = none
  n_sum : mg "sum" = none
  n_repr : mg "repr" = none
  g_FAR : ∃ t, mg "FAR" = some (.int 1000000 t)
  g_MOST_BOUND : ∃ t, mg "MOST_BOUND" = some (.int 200000 t)
  g_REACHED : ∃ t, mg "REACHED" = some (.int 1 t)
  g_NOUGHT : ∃ t, mg "NOUGHT" = some (.int 1 t)
  g_MOST_CLOCKS : ∃ t, mg "MOST_CLOCKS" = some (.int 3 t)
  g_MOST_MOMENT : ∃ t, mg "MOST_MOMENT" = some (.int 12 t)
  g_UPPER : mg "UPPER" = some (.ref aU)
  g_COMPARES : mg "COMPARES" = some (.ref aC)
  k_UPPER : ∀ H, SqT K H aU [.str "<", .str "<="]
  k_COMPARES : ∀ H, SqT K H aC [.str "<", .str "<=", .str ">", .str ">="]
end Zb
set_option Elab.async false
set_option linter.all false
set_option maxRecDepth 100000
set_option maxHeartbeats 4000000
namespace Zb
open PySem PySem.Spec PyProof.Rows L2 L2.DX Zg Evl
open StX (pa_star tStar)
open RZ (pi_zipA iZipA ItzT)
section
variable {K : PySem.W.Frag} {σ : L2.St} {H H' : Hp} {ta tb tc te tx : TE} {t u : TT} {x y z v : V} {r : R2} {D : Ends} {tu tw tz : TS}
/-! ### more values -/
theorem ev_chain {f g : Int → Int → Bool} {i j l : Int} (ha : Ev ta σ H (.int i)) (hb : Ev tb σ H (.int j)) (hc : Ev tc σ H (.int l)) : Ev (tChain (rI0 fun i j => .bl (f i j)) (rI0 fun i j => .bl (g i j)) ta tb tc) σ H (.bl (f i j && g j l)) := fun H1 e Q q =>
  ha H1 e _ fun H2 e2 => hb H2 (e.trans e2) _ fun H3 e3 => ⟨i, j, rfl, rfl, f i j, rfl, by
    cases hf : f i j with
    | true =>
      rw [hf] at q
      exact hc H3 ((e.trans e2).trans e3) _ fun H4 e4 => ⟨j, l, rfl, rfl, q H4 ((e2.trans e3).trans e4)⟩
    | false =>
      rw [hf] at q
      exact q H3 (e2.trans e3)⟩
theorem tyx_tup {a : Addr} {xs : List V} (h : SqT K H a xs) : TyX K H (.ref a) (.type "tuple") := by
  rcases h with (h | ⟨o, h⟩) | ⟨o, its, n, h1, h2, _⟩
  · exact .base (.tup h)
  · exact .fTuple h
  · exact .kTuple h1 h2
theorem ev_isi {a b : String} {r : Bool} (ha : Ev ta σ H x) (hx : ∀ H1, Ex H H1 → TyX K H1 x (.type a)) (hk : kitB a b = some r) : Ev (tCB (rIsi K) (tCons ta (tCons (tC (.ty b)) tNil))) σ H (.bl r) := fun H1 e Q q =>
  ha H1 e _ fun H2 e2 => ⟨x, .ty b, .type a, .type b, r, rfl, .ty b, hx H2 (e.trans e2), kit_ty hk, q H2 e2⟩
theorem ev_isiI {b : String} {r : Bool} {i : Int} (ha : Ev ta σ H (.int i)) (hk : kitB "int" b = some r) : Ev (tCB (rIsi K) (tCons ta (tCons (tC (.ty b)) tNil))) σ H (.bl r) := ev_isi ha (fun _ _ => .base (.int i)) hk
theorem ev_isiS {b : String} {r : Bool} {i : Str} (ha : Ev ta σ H (.str i)) (hk : kitB "str" b = some r) : Ev (tCB (rIsi K) (tCons ta (tCons (tC (.ty b)) tNil))) σ H (.bl r) := ev_isi ha (fun _ _ => .base (.str i)) hk
theorem ev_isiT {b : String} {r : Bool} {a : Addr} {xs : List V} (ha : Ev ta σ H (.ref a)) (h : SqT K H a xs) (hk : kitB "tuple" b = some r) : Ev (tCB (rIsi K) (tCons ta (tCons (tC (.ty b)) tNil))) σ H (.bl r) := ev_isi ha (fun _ e => tyx_tup (ex_t e h)) hk
theorem ev_lenT {p : Addr} {xs : List V} (ha : Ev ta σ H (.ref p)) (h : SqT K H p xs) : Ev (tCB (rLenS K) (tCons ta tNil)) σ H (.int (xs.length : Int)) := fun H1 e Q q =>
  ha H1 e _ fun H2 e2 => ⟨p, xs, rfl, Or.inr (ex_t (e.trans e2) h), q H2 e2⟩
theorem el_listT {p : Addr} {xs : List V} (ha : Ev ta σ H (.ref p)) (h : SqT K H p xs) : EvL (tCB (rListS K) (tCons ta tNil)) σ H xs := fun H1 e Q q =>
  ha H1 e _ fun H2 e2 => ⟨p, xs, rfl, Or.inr (ex_t (e.trans e2) h), fun l hl => q l _ (fresh_back e2 hl) (e2.trans (Ex.new hl)) upd_same⟩
theorem eu_tupL {p : Addr} {xs : List V} (ha : Ev ta σ H (.ref p)) (h : SqL K H p xs) : EvU (tCB (rTupS K) (tCons ta tNil)) σ H xs := fun H1 e Q q =>
  ha H1 e _ fun H2 e2 => ⟨p, xs, rfl, Or.inl ⟨ex_l (e.trans e2) h, fun l hl => q l _ (fresh_back e2 hl) (e2.trans (Ex.new hl)) upd_same⟩⟩
theorem eu_tupNL {xs : List V} (ha : EvL ta σ H xs) : EvU (tCB (rTupS K) (tCons ta tNil)) σ H xs := fun H1 e Q q =>
  ha H1 e _ fun p H2 hp e2 h2 => ⟨p, xs, rfl, Or.inl ⟨sq_of h2, fun l hl => q l _ (fresh_back e2 hl) (e2.trans (Ex.new hl)) upd_same⟩⟩
theorem ev_anyN {bs : List Bool} (ha : EvL ta σ H (bs.map V.bl)) : Ev (tCB (rAny K) (tCons ta tNil)) σ H (.bl (bs.any id)) := fun H1 e Q q =>
  ha H1 e _ fun p H2 _ e2 h2 => ⟨p, bs, rfl, sq_of h2, q H2 e2⟩
theorem ev_allN {bs : List Bool} (ha : EvL ta σ H (bs.map V.bl)) : Ev (tCB (rAll K) (tCons ta tNil)) σ H (.bl (bs.all id)) := fun H1 e Q q =>
  ha H1 e _ fun p H2 _ e2 h2 => ⟨p, bs, rfl, sq_of h2, q H2 e2⟩
theorem ev_int1 {i : Int} (ha : Ev ta σ H (.int i)) : Ev (tCB (fun xs H Q => (∃ i, xs = [.int i] ∧ Q (.int i) H) ∨ ∃ k, xs = [.bl k] ∧ Q (.int (if k then 1 else 0)) H) (tCons ta tNil)) σ H (.int i) := fun H1 e Q q =>
  ha H1 e _ fun H2 e2 => .inl ⟨i, rfl, q H2 e2⟩
theorem ev_int1b {b : Bool} (ha : Ev ta σ H (.bl b)) : Ev (tCB (fun xs H Q => (∃ i, xs = [.int i] ∧ Q (.int i) H) ∨ ∃ k, xs = [.bl k] ∧ Q (.int (if k then 1 else 0)) H) (tCons ta tNil)) σ H (.int (if b then 1 else 0)) := fun H1 e Q q =>
  ha H1 e _ fun H2 e2 => .inr ⟨b, rfl, q H2 e2⟩
theorem ev_abs {i : Int} (ha : Ev ta σ H (.int i)) : Ev (tCB (fun xs H Q => ∃ i, xs = [.int i] ∧ Q (.int (if i < 0 then -i else i)) H) (tCons ta tNil)) σ H (.int (if i < 0 then -i else i)) := fun H1 e Q q =>
  ha H1 e _ fun H2 e2 => ⟨i, rfl, q H2 e2⟩
theorem ev_min2 {i j : Int} (ha : Ev ta σ H (.int i)) (hb : Ev tb σ H (.int j)) : Ev (tCB (fun xs H Q => ∃ i j, xs = [.int i, .int j] ∧ Q (.int (if j < i then j else i)) H) (tCons ta (tCons tb tNil))) σ H (.int (if j < i then j else i)) := fun H1 e Q q =>
  ha H1 e _ fun H2 e2 => hb H2 (e.trans e2) _ fun H3 e3 => ⟨i, j, rfl, q H3 (e2.trans e3)⟩
theorem ev_repr {b : Bool} (ha : Ev ta σ H (.bl b)) : Ev (tCB (fun xs H Q => ∃ b, xs = [.bl b] ∧ Q (.str (if b then "True" else "False")) H) (tCons ta tNil)) σ H (.str (if b then "True" else "False")) := fun H1 e Q q =>
  ha H1 e _ fun H2 e2 => ⟨b, rfl, q H2 e2⟩
theorem rv_isN : RV (fun x y H Q => y = .non ∧ Q (.bl (decide (x = .non))) H) x .non H (.bl (decide (x = .non))) := fun H1 _ _ q => ⟨rfl, q H1 (Ex.refl H1)⟩
theorem rv_notN : RV (fun x y H Q => y = .non ∧ Q (.bl (!decide (x = .non))) H) x .non H (.bl (!decide (x = .non))) := fun H1 _ _ q => ⟨rfl, q H1 (Ex.refl H1)⟩
theorem rv_notBl {a b : Bool} : RV rNotB (.bl a) (.bl b) H (.bl (!decide (a = b))) := fun H1 _ _ q => ⟨a, b, rfl, rfl, q H1 (Ex.refl H1)⟩
/-! ### data compared -/
theorem dp_ints {xs : List Int} : DpAll K H (xs.map V.int) (xs.map PyData.int) := by
  induction xs with
  | nil => exact .nil
  | cons x xs ih => exact .cons (.int x) ih
theorem rv_eqD {d e : PyData} (h1 : ∀ H1, Ex H H1 → Dp K H1 x d) (h2 : ∀ H1, Ex H H1 → Dp K H1 y e) (s1 : SeqAt.shaped d = true) (s2 : SeqAt.shaped e = true) : RV (rEqD K) x y H (.bl (PyData.eqv d e)) := fun H1 e _ q => ⟨_, _, h1 H1 e, h2 H1 e, s1, s2, q H1 (Ex.refl H1)⟩
theorem rv_neD {d e : PyData} (h1 : ∀ H1, Ex H H1 → Dp K H1 x d) (h2 : ∀ H1, Ex H H1 → Dp K H1 y e) (s1 : SeqAt.shaped d = true) (s2 : SeqAt.shaped e = true) : RV (rNeD K) x y H (.bl (!PyData.eqv d e)) := fun H1 e _ q => ⟨_, _, h1 H1 e, h2 H1 e, s1, s2, q H1 (Ex.refl H1)⟩
/-! ### statements -/
theorem s_par {i j : Nat} (ha : Ev ta σ H x) (hb : Ev tb σ H y) (k : ∀ H1, Ex H H1 → D.nx ((σ.set i (some x)).set j (some y)) H1) : tPar i j (tCons ta (tCons tb tNil)) D σ H :=
  ha H (Ex.refl H) _ fun H1 e1 => hb H1 e1 _ fun H2 e2 => ⟨x, y, rfl, k H2 (e1.trans e2)⟩
theorem q_par {i j : Nat} (ha : Ev ta σ H x) (hb : Ev tb σ H y) (k : ∀ H1, Ex H H1 → tz D ((σ.set i (some x)).set j (some y)) H1) : tSeq (tPar i j (tCons ta (tCons tb tNil))) tz D σ H := s_par (D := { D with nx := tz D }) ha hb k
/-- a = .., b = a new list -/
theorem q_parL {i j : Nat} {xs : List V} (ha : Ev ta σ H x) (hb : EvL tb σ H xs) (k : ∀ p H1, H p = none → Ex H H1 → H1 p = some (.lst xs) → tz D ((σ.set i (some x)).set j (some (.ref p))) H1) : tSeq (tPar i j (tCons ta (tCons tb tNil))) tz D σ H :=
  ha H (Ex.refl H) _ fun H1 e1 => hb H1 e1 _ fun p H2 hp e2 h2 => ⟨x, .ref p, rfl, k p H2 (fresh_back e1 hp) (e1.trans e2) h2⟩
end
/-! ### the promises' form: a new tuple, a new dict -/
def RetU (xs : List V) (H : Hp) (Q : VK) : Prop := ∀ p H2, H p = none → Ex H H2 → H2 p = some (.tup xs) → Q (.ref p) H2
def RetT (kvs : List (List L2.Key × V)) (H : Hp) (Q : VK) : Prop := ∀ p H2, H p = none → Ex H H2 → H2 p = some (.dT kvs) → Q (.ref p) H2
theorem RetU.go {xs : List V} {H H' : Hp} {Q : VK} (k : RetU xs H Q) (e : Ex H H') {p : Addr} {H2 : Hp} (hp : H' p = none) (e2 : Ex H' H2) (h : H2 p = some (.tup xs)) : Q (.ref p) H2 := k p H2 (fresh_back e hp) (e.trans e2) h
end Zb
set_option Elab.async false
set_option linter.all false
set_option maxRecDepth 100000
set_option maxHeartbeats 4000000
namespace Zb
open PySem PySem.Spec PyProof.Rows L2 L2.DX Zg Evl
open StX (pa_star tStar)
open RZ (pi_zipA iZipA ItzT)
/-- all but one stands -/
def Eb (l : Addr) (H H' : Hp) : Prop := ∀ a o, a ≠ l → H a = some o → H' a = some o
theorem Eb.refl (l : Addr) (H : Hp) : Eb l H H := fun _ _ _ h => h
theorem Eb.trans {l : Addr} {H H1 H2 : Hp} (a : Eb l H H1) (b : Eb l H1 H2) : Eb l H H2 := fun c o hc h => b c o hc (a c o hc h)
theorem Eb.of {l : Addr} {H H1 : Hp} (e : Ex H H1) : Eb l H H1 := fun a o _ h => e a o h
theorem Eb.upd {l : Addr} {H H1 : Hp} {o : HO} (e : Eb l H H1) : Eb l H (upd H1 l o) := fun a u ha h => by
  rw [upd_ne ha]
  exact e a u ha h
/-- what is new to H may change -/
theorem Eb.ex {l : Addr} {H H1 H2 : Hp} (e : Ex H H1) (n : H l = none) (b : Eb l H1 H2) : Ex H H2 := fun a o h => b a o (ne_of_none h n) (e a o h)
theorem Eb.free {l p : Addr} {H H1 : Hp} (e : Eb l H H1) (hp : p ≠ l) (n : H1 p = none) : H p = none := by
  cases h : H p with
  | none => rfl
  | some o =>
    rw [e p o hp h] at n
    cases n
theorem eb_t {K : PySem.W.Frag} {l a : Addr} {H H1 : Hp} {xs : List V} (e : Eb l H H1) (ha : a ≠ l) (h : SqT K H a xs) : SqT K H1 a xs := by
  rcases h with (h | ⟨o, h⟩) | h
  · exact .inl (.inl (e a _ ha h))
  · exact .inl (.inr ⟨o, e a _ ha h⟩)
  · exact .inr h
theorem eb_l {K : PySem.W.Frag} {l a : Addr} {H H1 : Hp} {xs : List V} (e : Eb l H H1) (ha : a ≠ l) (h : SqL K H a xs) : SqL K H1 a xs := by
  rcases h with (h | ⟨o, h⟩) | h
  · exact .inl (.inl (e a _ ha h))
  · exact .inl (.inr ⟨o, e a _ ha h⟩)
  · exact .inr h
section
variable {K : PySem.W.Frag} {σ : L2.St} {H H' : Hp} {ta tb tc te tx : TE} {t u : TT} {x y z v : V} {r : R2} {D : Ends} {tu tw tz : TS}
theorem et_yes : EvT tYes σ H true := fun H1 _ Q q => q H1 (Ex.refl H1)
theorem given_all (n : Nat) (v : Nat → V) : given n (fun _ => true) v = (List.range n).map v := by
  unfold given
  rw [List.filter_eq_self.mpr (fun _ _ => rfl)]
/-- any, all of [.. for i in range(n)] -/
theorem el_R {ta : TA} {n : Int} {j : Nat} {vs : List Nat} (p : Nat → V) (h : EvA ta σ H [.int n]) (hn : 0 ≤ n ∧ n ≤ 40000) (hw : ∀ x, wipe ((wipe σ vs).set j (some x)) vs = wipe σ vs)
    (he : ∀ (i : Nat) H1, Ex H H1 → (i : Int) < n → Ev te ((wipe σ vs).set j (some (.int (i : Int)))) H1 (p i)) : EvL (tLc (iRng1 ta) (gName j) tYes te vs) σ H ((List.range n.toNat).map p) := by
  have e := el_lcR1 (fun _ => true) p h hn hw (fun i H1 _ _ => et_yes) (fun i H1 e hi _ => he i H1 e hi)
  rw [given_all] at e
  exact e
theorem ev_anyR {ta : TA} {n : Int} {j : Nat} {vs : List Nat} (p : Nat → Bool) (h : EvA ta σ H [.int n]) (hn : 0 ≤ n ∧ n ≤ 40000) (hw : ∀ x, wipe ((wipe σ vs).set j (some x)) vs = wipe σ vs)
    (he : ∀ (i : Nat) H1, Ex H H1 → (i : Int) < n → Ev te ((wipe σ vs).set j (some (.int (i : Int)))) H1 (.bl (p i))) : Ev (tCB (rAny K) (tCons (tLc (iRng1 ta) (gName j) tYes te vs) tNil)) σ H (.bl ((List.range n.toNat).any p)) := by
  have e := el_R (fun i => V.bl (p i)) h hn hw he
  rw [show (fun i => V.bl (p i)) = V.bl ∘ p from rfl, ← List.map_map] at e
  have e2 := ev_anyN (K := K) e
  rw [List.any_map] at e2
  exact e2
theorem ev_allR {ta : TA} {n : Int} {j : Nat} {vs : List Nat} (p : Nat → Bool) (h : EvA ta σ H [.int n]) (hn : 0 ≤ n ∧ n ≤ 40000) (hw : ∀ x, wipe ((wipe σ vs).set j (some x)) vs = wipe σ vs)
    (he : ∀ (i : Nat) H1, Ex H H1 → (i : Int) < n → Ev te ((wipe σ vs).set j (some (.int (i : Int)))) H1 (.bl (p i))) : Ev (tCB (rAll K) (tCons (tLc (iRng1 ta) (gName j) tYes te vs) tNil)) σ H (.bl ((List.range n.toNat).all p)) := by
  have e := el_R (fun i => V.bl (p i)) h hn hw he
  rw [show (fun i => V.bl (p i)) = V.bl ∘ p from rfl, ← List.map_map] at e
  have e2 := ev_allN (K := K) e
  rw [List.all_map] at e2
  exact e2
/-- a comprehension over a tuple -/
theorem el_T {a : Addr} {xs : List V} {tl : TE} {j : Nat} {vs : List Nat} (p : V → V) (h : Ev tl σ H (.ref a)) (hx : SqT K H a xs) (hz : xs.length ≤ 40000) (hw : ∀ x, wipe ((wipe σ vs).set j (some x)) vs = wipe σ vs)
    (he : ∀ (x : V) H1, Ex H H1 → x ∈ xs → Ev te ((wipe σ vs).set j (some x)) H1 (p x)) :
    EvL (tLc (iTup K tl) (gName j) tYes te vs) σ H (xs.map p) := by
  have e : EvL (tLc (iTup K tl) (gName j) tYes te vs) σ H (given xs.length (fun _ => true) (fun i => p (xs.getD i .non))) := fun H0 e Q q => h H0 e _ fun H1 e1 => ⟨a, rfl, ⟨xs, ex_t (e.trans e1) hx⟩, fun Dl hD =>
    lc_tup (xs := xs) (Cw H1 (fun _ => true) (fun i => p (xs.getD i .non)) Dl) ⟨hD, Ex.new hD, upd_same⟩ (fun i H' _ q => ex_t ((e.trans e1).trans q.2.1) hx) (fun i x H' hi q => ⟨hw x, cw_turn q (by have := (List.getElem?_eq_some_iff.mp hi).1; omega) et_yes (fun _ => by
      have e3 : xs.getD i .non = x := by rw [List.getD_eq_getElem?_getD, hi]; rfl
      rw [e3]
      exact he x H1 (e.trans e1) (List.mem_of_getElem? hi))⟩)
      (fun H' p => q Dl H' (fresh_back e1 p.1) (e1.trans p.2.1) p.2.2)⟩
  rw [given_all] at e
  have e2 : (List.range xs.length).map (fun i => p (xs.getD i .non)) = xs.map p := by
    refine List.ext_getElem? fun i => ?_
    rw [List.getElem?_map, List.getElem?_map]
    by_cases hi : i < xs.length
    · rw [List.getElem?_range hi, List.getElem?_eq_getElem hi]
      show some (p (xs.getD i .non)) = some (p xs[i])
      rw [List.getD_eq_getElem?_getD, List.getElem?_eq_getElem hi]
      rfl
    · rw [List.getElem?_eq_none (by simpa using hi), List.getElem?_eq_none (by simpa using hi)]
      rfl
  rw [e2] at e
  exact e
theorem ev_allT {a : Addr} {xs : List V} {tl : TE} {j : Nat} {vs : List Nat} (p : V → Bool) (h : Ev tl σ H (.ref a)) (hx : SqT K H a xs) (hz : xs.length ≤ 40000) (hw : ∀ x, wipe ((wipe σ vs).set j (some x)) vs = wipe σ vs)
    (he : ∀ (x : V) H1, Ex H H1 → x ∈ xs → Ev te ((wipe σ vs).set j (some x)) H1 (.bl (p x))) : Ev (tCB (rAll K) (tCons (tLc (iTup K tl) (gName j) tYes te vs) tNil)) σ H (.bl (xs.all p)) := by
  have e := el_T (K := K) (fun x => V.bl (p x)) h hx hz hw he
  rw [show (fun i => V.bl (p i)) = V.bl ∘ p from rfl, ← List.map_map] at e
  have e2 := ev_allN (K := K) e
  rw [List.all_map] at e2
  exact e2
theorem ev_anyT {a : Addr} {xs : List V} {tl : TE} {j : Nat} {vs : List Nat} (p : V → Bool) (h : Ev tl σ H (.ref a)) (hx : SqT K H a xs) (hz : xs.length ≤ 40000) (hw : ∀ x, wipe ((wipe σ vs).set j (some x)) vs = wipe σ vs)
    (he : ∀ (x : V) H1, Ex H H1 → x ∈ xs → Ev te ((wipe σ vs).set j (some x)) H1 (.bl (p x))) : Ev (tCB (rAny K) (tCons (tLc (iTup K tl) (gName j) tYes te vs) tNil)) σ H (.bl (xs.any p)) := by
  have e := el_T (K := K) (fun x => V.bl (p x)) h hx hz hw he
  rw [show (fun i => V.bl (p i)) = V.bl ∘ p from rfl, ← List.map_map] at e
  have e2 := ev_anyN (K := K) e
  rw [List.any_map] at e2
  exact e2
/-- all of [.. for a, b in zip(t, u)], tuples of one length -/
theorem ev_allZ {ta : TA} {a b : Addr} {xs ys : List V} {g : TG} {vs : List Nat} (p : V → V → Bool) (h : EvA ta σ H [.ref a, .ref b]) (hx : SqT K H a xs) (hy : SqT K H b ys) (hl : xs.length = ys.length) (hz : xs.length ≤ 40000)
    (hs : ∀ (x y : V) (T : Addr) (H1 H2 : Hp), Ex H H1 → (x, y) ∈ xs.zip ys → Ex H1 H2 → H2 T = some (.tup [x, y]) → ∀ Q : L2.St → Hp → Prop, (∀ σ2, wipe σ2 vs = wipe σ vs → Ev te σ2 H2 (.bl (p x y)) → Q σ2 H2) → g (.ref T) (wipe σ vs) H2 Q) :
    Ev (tCB (rAll K) (tCons (tLc (iZipA K ta) g tYes te vs) tNil)) σ H (.bl ((xs.zip ys).all fun q => p q.1 q.2)) := by
  have e : EvL (tLc (iZipA K ta) g tYes te vs) σ H (((xs.zip ys).map fun q => p q.1 q.2).map V.bl) := fun H0 e Q q => h H0 e _ fun H1 e1 => by
    have eA := e.trans e1
    refine ⟨a, b, xs, ys, rfl, .inr ⟨ex_t eA hx, ex_t eA hy, fun Dl hD => ?_⟩⟩
    refine ⟨fun i m H2 => m = xs.length - i ∧ i ≤ xs.length ∧ H1 Dl = none ∧ Ex H1 H2 ∧ H2 Dl = some (.lst ((((xs.zip ys).map fun q => p q.1 q.2).map V.bl).take i)), ⟨xs.length, rfl, Nat.zero_le _, hD, Ex.new hD, upd_same⟩, ?_⟩
    rintro i m H2 ⟨rfl, hi, hD', e2, hl2⟩
    by_cases hlt : i < xs.length
    · have hx' : xs[i]? = some xs[i] := List.getElem?_eq_getElem hlt
      have hlt2 : i < ys.length := by omega
      have hy' : ys[i]? = some ys[i] := List.getElem?_eq_getElem hlt2
      refine .inr ⟨⟨xs, ys, _, _, ex_t (eA.trans e2) hx, ex_t (eA.trans e2) hy, hx', hy'⟩, _, fun H' hN => ⟨xs.length - (i + 1), by omega, hN⟩, fun v H' hyld => ?_⟩
      obtain ⟨T, x', y', rfl, hT, rfl, f1, f2⟩ := hyld
      have ex : x' = xs[i] := Option.some.inj ((f1 xs (ex_t (eA.trans e2) hx)).symm.trans hx')
      have ey : y' = ys[i] := Option.some.inj ((f2 ys (ex_t (eA.trans e2) hy)).symm.trans hy')
      subst ex ey
      have hmem : (xs[i], ys[i]) ∈ xs.zip ys := List.mem_of_getElem? (List.getElem?_zip_eq_some.mpr ⟨hx', hy'⟩)
      refine hs _ _ T H2 (upd H2 T (.tup [xs[i], ys[i]])) (eA.trans e2) hmem (Ex.new hT) upd_same _ fun σ2 hσ hev => ⟨hσ, ?_⟩
      show te σ2 (upd H2 T (.tup [xs[i], ys[i]])) _
      refine hev _ (Ex.refl _) _ fun H4 e4 => ?_
      have hD4 : H4 Dl = some (.lst ((((xs.zip ys).map fun q => p q.1 q.2).map V.bl).take i)) := e4 Dl _ (by rw [upd_ne (ne_of_none hl2 hT)]; exact hl2)
      refine ⟨_, hD4, ?_, rfl, by omega, hD', Ex.mut ((e2.trans (Ex.new hT)).trans e4) hD', ?_⟩
      · refine sz_lt ?_
        rw [List.length_take]
        omega
      · rw [upd_same]
        congr 2
        have hz2 : (xs.zip ys)[i]? = some (xs[i], ys[i]) := List.getElem?_zip_eq_some.mpr ⟨hx', hy'⟩
        rw [List.take_add_one, List.getElem?_map, List.getElem?_map, hz2]
        rfl
    · have hie : i = xs.length := by omega
      subst hie
      refine .inl ⟨⟨xs, ys, ex_t (eA.trans e2) hx, ex_t (eA.trans e2) hy, .inl (Nat.le_refl _)⟩, ?_⟩
      refine q Dl H2 (fresh_back e1 hD') (e1.trans e2) ?_
      rw [hl2, List.take_of_length_le]
      rw [List.length_map, List.length_map, List.length_zip]
      omega
  have e2 := ev_allN (K := K) e
  rw [List.all_map] at e2
  exact e2
end
end Zb
set_option Elab.async false
set_option linter.all false
set_option maxRecDepth 100000
set_option maxHeartbeats 4000000
namespace Zb
open PySem PySem.Spec PyProof.Rows L2 L2.DX Zg Evl
open StX (pa_star tStar)
open RZ (pi_zipA iZipA ItzT)
open Zm (sumE Sq B zl enc dec fw neg Up both less at3 mids rows cols Edge gmin gall EdgeOk Zn NonNeg Clo)
local macro_rules | `(tactic| walk_at "ev") => `(tactic| repeat' (first
  | exact ev_c
  | exact ev_var rfl
  | exact rv_I0
  | exact rv_isN
  | exact rv_notN
  | exact rv_notBl
  | refine ev_op ?_ ?_ rv_I0
  | refine ev_op ?_ ?_ rv_isN
  | refine ev_op ?_ ?_ rv_notN
  | refine ev_op ?_ ?_ rv_notBl
  | refine ev_op ?_ ?_ (rv_eq ?_)
  | refine ev_op ?_ ?_ (rv_ne ?_)
  | refine ev_op ?_ ?_ (rv_I ?_)
  | refine ev_un ?_ ru_neg
  | refine ev_chain ?_ ?_ ?_
  | refine ev_int1 ?_
  | refine ev_int1b ?_
  | refine ev_abs ?_
  | refine ev_min2 ?_ ?_
  | refine ev_repr ?_
  | refine ev_notV ?_
  | refine et_test ?_
  | refine et_B ?_
  | refine et_not ?_
  | refine ea_cons ?_ ?_
  | exact ea_nil))
section
variable {P : Program} {w : World} {K : PySem.W.Frag} {mg : Str → Option Value} {base : Heap} {aU aC : Addr}
/-! ### is_integer, is_between -/
def spIsInteger : Sp := fun vs H Q _ => ∃ i : Int, vs = [.int i] ∧ RetV (.bl true) H Q
theorem sv_is_integer {i : Int} {H : Hp} : SpV spIsInteger [.int i] H (.bl true) := fun H1 _ Q q E => ⟨i, rfl, fun H2 e => q H2 e⟩
theorem c_is_integer (T : Tx K mg aU aC) (D : Df K mg "is_integer" s_is_integer ["value"]) : Cl P w K mg base 1 "is_integer" spIsInteger := by
  refine D.cl sc_is_integer (fun vs H Q E h => by obtain ⟨i, rfl, _⟩ := h; rfl) (fun f cdv A outer s H vs Q E hr h => ?_)
  obtain ⟨i, rfl, k⟩ := h
  refine ⟨_, (pss_one (ps_ret (pe_and (pe_callB (isiK (K := K)) (by rfl) T.n_isinstance (by decide +kernel) (pa_cons (pv 0) (pa_cons (pe_gty (n := "int") T.n_int (by decide +kernel)) pa_nil))) (pe_one (pe_not (pe_callB (isiK (K := K)) (by rfl) T.n_isinstance (by decide +kernel) (pa_cons (pv 0) (pa_cons (pe_gty (n := "bool") T.n_bool (by decide +kernel)) pa_nil)))))))), ?_⟩
  refine s_ret (ev_andV (ev_isiI (r := true) (ev_var rfl) (by decide +kernel)) fun _ => ev_notV (ev_isiI (r := false) (ev_var rfl) (by decide +kernel))) fun H1 e => k H1 e
def spIsBetween : Sp := fun vs H Q _ => ∃ v l h : Int, vs = [.int v, .int l, .int h] ∧ RetV (.bl (decide (l ≤ v) && decide (v ≤ h))) H Q
theorem sv_is_between {v l h : Int} {H : Hp} : SpV spIsBetween [.int v, .int l, .int h] H (.bl (decide (l ≤ v) && decide (v ≤ h))) := fun H1 _ Q q E => ⟨v, l, h, rfl, fun H2 e => q H2 e⟩
theorem c_is_between (T : Tx K mg aU aC) (D : Df K mg "is_between" s_is_between ["value", "low", "high"]) (c_is_integer : Cl P w K mg base 1 "is_integer" spIsInteger) : Cl P w K mg base 2 "is_between" spIsBetween := by
  refine D.cl sc_is_between (fun vs H Q E h => by obtain ⟨_, _, _, rfl, _⟩ := h; rfl) (fun f cdv A outer s H vs Q E hr h => ?_)
  obtain ⟨v, l, h, rfl, k⟩ := h
  refine ⟨_, (pss_one (ps_ret (pe_and (pe_cl c_is_integer hr (by decide) (by rfl) (pa_cons (pv 0) pa_nil)) (pe_one (pe_chain op_le op_le (pv 1) (pv 0) (pv 2)))))), ?_⟩
  refine s_ret (ev_andV (ev_call (ea_cons (ev_var rfl) ea_nil) sv_is_integer) fun _ => ?_) fun H1 e => k H1 e
  walk_at "ev"
/-! ### the greatest common factor -/
def spCommon : Sp := fun vs H Q _ => ∃ a b : Int, vs = [.int a, .int b] ∧ RetV (.int ((Nat.gcd a.natAbs b.natAbs : Nat) : Int)) H Q
theorem sv_common {a b : Int} {H : Hp} : SpV spCommon [.int a, .int b] H (.int ((Nat.gcd a.natAbs b.natAbs : Nat) : Int)) := fun H1 _ Q q E => ⟨a, b, rfl, fun H2 e => q H2 e⟩
theorem abs_nat (a : Int) : (if a < 0 then -a else a) = ((a.natAbs : Nat) : Int) := by split <;> omega
theorem int_ne0 (y : Nat) : (!decide (V.int (y : Int) = V.int 0)) = !decide (y = 0) := by
  by_cases h : y = 0
  · subst h
    rfl
  · rw [decide_eq_false h, decide_eq_false (fun z => h (by injection z with z; omega))]
theorem c_common (T : Tx K mg aU aC) (D : Df K mg "common" s_common ["one", "other"]) : Cl P w K mg base 1 "common" spCommon := by
  refine D.cl sc_common (fun vs H Q E h => by obtain ⟨_, _, rfl, _⟩ := h; rfl) (fun f cdv A outer s H vs Q E hr h => ?_)
  obtain ⟨a, b, rfl, k⟩ := h
  refine ⟨_, (pss_cons (ps_par (i := 0) (j := 1) rfl sc_common.nd rfl rfl (by decide) rfl rfl (pa_cons (pe_callB call_abs (by rfl) T.n_abs (by decide +kernel) (pa_cons (pv 0) pa_nil)) (pa_cons (pe_callB call_abs (by rfl) T.n_abs (by decide +kernel) (pa_cons (pv 1) pa_nil)) pa_nil)) rfl)
      (pss_cons (ps_while PassesOwn.never (pt_cmpR op_ne (pv 1) pe_int (nomark _)) (pss_one (ps_par (i := 0) (j := 1) rfl sc_common.nd rfl rfl (by decide) rfl rfl (pa_cons (pv 1) (pa_cons (pe_op op_mod (pv 0) (pv 1)) pa_nil)) rfl)))
      (pss_one (ps_ret (pv 0))))), ?_⟩
  refine q_par (ev_abs (ev_var rfl)) (ev_abs (ev_var rfl)) fun H1 e1 => ?_
  rw [abs_nat, abs_nat]
  refine q_while (fun m σ H2 => ∃ x y : Nat, σ = [some (.int x), some (.int y)] ∧ Nat.gcd x y = Nat.gcd a.natAbs b.natAbs ∧ m = y ∧ Ex H H2) b.natAbs ⟨a.natAbs, b.natAbs, rfl, rfl, rfl, e1⟩ fun m σ H2 hW => ?_
  obtain ⟨x, y, rfl, hg, rfl, e2⟩ := hW
  refine ⟨!decide (m = 0), et_is (et_test (ev_op (ev_var rfl) ev_c (rv_ne rfl))) (int_ne0 m), fun hb H3 e3 => ?_, fun hb H3 e3 => ?_⟩
  · have hm : 0 < m := by
      have : ¬ m = 0 := by simpa using hb
      omega
    refine ⟨_, fun σ4 H4 h => h, s_par (ev_var rfl) (ev_op (ev_var rfl) (ev_var rfl) (rv_I (by omega))) fun H4 e4 => ⟨x % m, Nat.mod_lt _ hm, m, x % m, ?_, ?_, rfl, (e2.trans e3).trans e4⟩⟩
    · rw [Int.natCast_emod]
      rfl
    · rw [← hg, Nat.gcd_comm, ← Nat.gcd_rec, Nat.gcd_comm]
  · have hm : m = 0 := by simpa using hb
    subst hm
    rw [Nat.gcd_zero_right] at hg
    refine s_ret (ev_var rfl) fun H4 e4 => ?_
    rw [hg]
    exact k H4 ((e2.trans e3).trans e4)
/-! ### bounds -/
def b01 (b : Bool) : Int := if b then 1 else 0
def spBoundOf : Sp := fun vs H Q _ => ∃ (n : Int) (b : Bool), vs = [.int n, .bl b] ∧ RetV (.int (2 * n + b01 b)) H Q
theorem sv_bound_of {n : Int} {b : Bool} {H : Hp} : SpV spBoundOf [.int n, .bl b] H (.int (2 * n + b01 b)) := fun H1 _ Q q E => ⟨n, b, rfl, fun H2 e => q H2 e⟩
theorem two_small : CMul 2 n := .inl ⟨by decide, by decide⟩
theorem c_bound_of (T : Tx K mg aU aC) (D : Df K mg "bound_of" s_bound_of ["number", "is_reached"]) : Cl P w K mg base 1 "bound_of" spBoundOf := by
  refine D.cl sc_bound_of (fun vs H Q E h => by obtain ⟨_, _, rfl, _⟩ := h; rfl) (fun f cdv A outer s H vs Q E hr h => ?_)
  obtain ⟨n, b, rfl, k⟩ := h
  refine ⟨_, (pss_one (ps_ret (pe_op op_add (pe_op op_mul pe_int (pv 0)) (pe_ifExp (pt_val (pv 1)) (pe_gint T.g_REACHED) pe_int)))), ?_⟩
  refine s_ret (ev_op (ev_op ev_c (ev_var rfl) (rv_I two_small)) (ev_if (v := .int (b01 b)) (b := b) (et_B (ev_var rfl)) (fun hb => ?_) fun hb => ?_) rv_I0) fun H1 e => k H1 e
  · rw [hb]
    exact ev_c
  · rw [hb]
    exact ev_c
def spSumOf : Sp := fun vs H Q _ => ∃ x y : Int, vs = [.int x, .int y] ∧ RetV (.int (sumE x y)) H Q
theorem sv_sum_of {x y : Int} {H : Hp} : SpV spSumOf [.int x, .int y] H (.int (sumE x y)) := fun H1 _ Q q E => ⟨x, y, rfl, fun H2 e => q H2 e⟩
theorem c_sum_of_bounds (T : Tx K mg aU aC) (D : Df K mg "sum_of_bounds" s_sum_of_bounds ["one", "other"]) : Cl P w K mg base 1 "sum_of_bounds" spSumOf := by
  refine D.cl sc_sum_of_bounds (fun vs H Q E h => by obtain ⟨_, _, rfl, _⟩ := h; rfl) (fun f cdv A outer s H vs Q E hr h => ?_)
  obtain ⟨x, y, rfl, k⟩ := h
  refine ⟨_, (pss_cons (ps_if (pt_cmpR (inK (K := K)) (pe_gint T.g_FAR) (pe_tup (pa_cons (pv 0) (pa_cons (pv 1) pa_nil))) (by with_unfolding_all rfl)) (pss_one (ps_ret (pe_gint T.g_FAR))) pss_nil)
      (pss_one (ps_ret (pe_op op_add (pe_op op_mul pe_int (pe_op op_add (pe_op op_fdiv (pv 0) pe_int) (pe_op op_fdiv (pv 1) pe_int))) (pe_op op_mul (pe_op op_mod (pv 0) pe_int) (pe_op op_mod (pv 1) pe_int)))))), ?_⟩
  have ein : inV (.int 1000000) [.int x, .int y] = decide (x = 1000000 ∨ y = 1000000) := by
    simp only [inV, eqV, List.any_cons, List.any_nil, Bool.or_false, Bool.decide_or]
    rfl
  refine q_when (b := decide (x = 1000000 ∨ y = 1000000)) (et_is (et_test (ev_inU ev_c (eu_tup (ea_cons (ev_var rfl) (ea_cons (ev_var rfl) ea_nil)) (by show 2 ≤ 100000; decide)) rfl rfl)) ein) (fun hb H1 e1 => ?_) fun hb H1 e1 => ?_
  · refine s_ret ev_c fun H2 e2 => ?_
    have e := k H2 (e1.trans e2)
    unfold sumE at e
    rw [if_pos (of_decide_eq_true hb)] at e
    exact e
  · refine s_ret (ev_op (ev_op ev_c (ev_op (ev_op (ev_var rfl) ev_c (rv_I ⟨by decide, by decide⟩)) (ev_op (ev_var rfl) ev_c (rv_I ⟨by decide, by decide⟩)) rv_I0) (rv_I two_small)) (ev_op (ev_op (ev_var rfl) ev_c (rv_I (by decide))) (ev_op (ev_var rfl) ev_c (rv_I (by decide))) (rv_I (.inl ⟨by omega, by omega⟩))) rv_I0) fun H2 e2 => ?_
    have e := k H2 (e1.trans e2)
    unfold sumE at e
    rw [if_neg (of_decide_eq_false hb)] at e
    exact e
/-! ### the side of a square -/
def spSide (K : PySem.W.Frag) : Sp := fun vs H Q _ => ∃ (a : Addr) (xs : List V) (n : Nat), vs = [.ref a] ∧ SqT K H a xs ∧ xs.length = n * n ∧ 1 ≤ n ∧ n ≤ 1000 ∧ RetV (.int n) H Q
theorem sv_side {a : Addr} {xs : List V} {n : Nat} {H : Hp} (h : SqT K H a xs) (hl : xs.length = n * n) (h1 : 1 ≤ n) (h2 : n ≤ 1000) : SpV (spSide K) [.ref a] H (.int n) := fun H1 e Q q E => ⟨a, xs, n, rfl, ex_t e h, hl, h1, h2, fun H2 e => q H2 e⟩
theorem c_side_of (T : Tx K mg aU aC) (D : Df K mg "side_of" s_side_of ["zone"]) : Cl P w K mg base 1 "side_of" (spSide K) := by
  refine D.cl sc_side_of (fun vs H Q E h => by obtain ⟨_, _, _, rfl, _⟩ := h; rfl) (fun f cdv A outer s H vs Q E hr h => ?_)
  obtain ⟨a, xs, n, rfl, hx, hl, hn1, hn2, k⟩ := h
  refine ⟨_, (pss_cons (ps_set (i := 1) sc_side_of.nd rfl (.inl rfl) pe_int)
      (pss_cons (ps_while PassesOwn.never (pt_cmpR op_lt (pe_op op_mul (pv 1) (pv 1)) (pe_callB (lenK (K := K)) (by rfl) T.n_len PySem.boot_len (pa_cons (pv 0) pa_nil)) (nomark _)) (pss_one (ps_set (i := 1) sc_side_of.nd rfl (.inl rfl) (pe_op op_add (pv 1) pe_int))))
      (pss_one (ps_ret (pv 1))))), ?_⟩
  refine q_asg ev_c fun H1 e1 => ?_
  refine q_while (fun m σ H2 => ∃ f : Nat, σ = [some (.ref a), some (.int f)] ∧ 1 ≤ f ∧ f ≤ n ∧ m = n - f ∧ Ex H H2) (n - 1) ⟨1, rfl, Nat.le_refl 1, hn1, rfl, e1⟩ fun m σ H2 hW => ?_
  obtain ⟨f, rfl, hf1, hf2, rfl, e2⟩ := hW
  refine ⟨decide ((f : Int) * f < (xs.length : Int)), et_test (ev_op (ev_op (ev_var rfl) (ev_var rfl) (rv_I (.inl ⟨by omega, by omega⟩))) (ev_lenT (ev_var rfl) (ex_t e2 hx)) rv_I0), fun hb H3 e3 => ?_, fun hb H3 e3 => ?_⟩
  · have hlt : f < n := by
      have h1 := of_decide_eq_true hb
      rw [hl] at h1
      have h2 : f * f < n * n := by exact_mod_cast h1
      rcases Nat.lt_or_ge f n with h | h
      · exact h
      · have := Nat.mul_le_mul h h
        omega
    refine ⟨_, fun σ4 H4 h => h, s_asg (ev_op (ev_var rfl) ev_c rv_I0) fun H4 e4 => ⟨n - (f + 1), by omega, f + 1, rfl, by omega, by omega, rfl, (e2.trans e3).trans e4⟩⟩
  · have he : f = n := by
      have h1 := of_decide_eq_false hb
      rw [hl] at h1
      have h2 : ¬ f * f < n * n := fun z => h1 (by exact_mod_cast z)
      rcases Nat.lt_or_ge f n with h | h
      · have h3 : f * f < n * n := Nat.mul_lt_mul_of_lt_of_le' h hf2 (by omega)
        omega
      · omega
    subst he
    exact s_ret (ev_var rfl) fun H4 e4 => k H4 ((e2.trans e3).trans e4)
end
end Zb
set_option Elab.async false
set_option linter.all false
set_option maxRecDepth 100000
set_option maxHeartbeats 4000000
namespace Zb
open PySem PySem.Spec PyProof.Rows L2 L2.DX Zg Evl
open StX (pa_star tStar)
open RZ (pi_zipA iZipA ItzT)
open Zm (sumE Sq B zl enc dec fw neg Up both less at3 mids rows cols Edge gmin gall EdgeOk Zn NonNeg Clo)

/-! ### the program's rounds -/
abbrev zv (n : Nat) (S : Sq) : List V := (zl n S).map V.int
theorem zv_len (n : Nat) (S : Sq) : (zv n S).length = n * n := by rw [List.length_map, Zm.zl_len]
theorem zv_get {n i j : Nat} {S : Sq} (hi : i < n) (hj : j < n) : (zv n S)[i * n + j]? = some (.int (enc (S i j))) := by
  rw [List.getElem?_map, Zm.zl_get hi hj]
  rfl
theorem zv_at {n i j : Nat} {S : Sq} {z : Int} (hi : i < n) (hj : j < n) (hz : z = (i : Int) * n + j) : atI (zv n S) z = some (.int (enc (S i j))) :=
  at_of (j := i * n + j) (by rw [hz]; simp) (zv_get hi hj)
theorem zv_set {n i j : Nat} {S : Sq} {v : B} (hi : i < n) (hj : j < n) : (zv n S).set (i * n + j) (.int (enc v)) = zv n (Zm.put S i j v) := by
  rw [← List.map_set, Zm.zl_set hi hj]
section
variable {P : Program} {w : World} {K : PySem.W.Frag} {mg : Str → Option Value} {base : Heap} {aU aC : Addr}
def spTight : Sp := fun vs H Q _ => ∃ (l : Addr) (n : Nat) (S : Sq), vs = [.ref l, .int n] ∧ H l = some (.lst (zv n S)) ∧ 1 ≤ n ∧ n ≤ 4 ∧ Up 1000 n S ∧
  (neg n (fw n S) = true → ∀ H2, Eb l H H2 → Q .non H2) ∧ (neg n (fw n S) = false → ∀ p H2, H p = none → Eb l H H2 → H2 p = some (.tup (zv n (fw n S))) → Q (.ref p) H2)
theorem c_tight (T : Tx K mg aU aC) (D : Df K mg "tight" s_tight ["bounds", "size"]) (c_sum_of_bounds : Cl P w K mg base 1 "sum_of_bounds" spSumOf) : Cl P w K mg base 2 "tight" spTight := by
  refine D.cl sc_tight (fun vs H Q E h => by obtain ⟨_, _, _, rfl, _⟩ := h; rfl) (fun f cdv A outer s H vs Q E hr h => ?_)
  obtain ⟨l, n, S, rfl, hl, hn1, hn4, hup, k1, k2⟩ := h
  refine ⟨_, (pss_cons (ps_for PassesOwn.never rfl (pi_range1 (by rfl) T.n_range (pa_cons (pv 1) pa_nil)) (pg_name (i := 2) sc_tight.nd rfl (.inl rfl)) (pss_one (ps_for PassesOwn.never rfl (pi_range1 (by rfl) T.n_range (pa_cons (pv 1) pa_nil)) (pg_name (i := 3) sc_tight.nd rfl (.inl rfl)) (pss_one (ps_for PassesOwn.never rfl (pi_range1 (by rfl) T.n_range (pa_cons (pv 1) pa_nil)) (pg_name (i := 4) sc_tight.nd rfl (.inl rfl)) (pss_cons (ps_set (i := 5) sc_tight.nd rfl (.inl rfl) (pe_cl c_sum_of_bounds hr (by decide) (by rfl) (pa_cons (pe_ix (ixL (K := K)) (pv 0) (pe_op op_add (pe_op op_mul (pv 3) (pv 1)) (pv 2)) (fun _ _ => rfl)) (pa_cons (pe_ix (ixL (K := K)) (pv 0) (pe_op op_add (pe_op op_mul (pv 2) (pv 1)) (pv 4)) (fun _ _ => rfl)) pa_nil))))
      (pss_one (ps_if (pt_cmpR op_lt (pv 5) (pe_ix (ixL (K := K)) (pv 0) (pe_op op_add (pe_op op_mul (pv 3) (pv 1)) (pv 4)) (fun _ _ => rfl)) (nomark _)) (pss_one (ps_asg (pv 5) (pg_sub (pv 0) (pe_op op_add (pe_op op_mul (pv 3) (pv 1)) (pv 4)) set_list))) pss_nil))))))))
      (pss_cons (ps_if (pt_val (pe_callB (anyK (K := K) rfl) (by rfl) T.n_any (by decide +kernel) (pa_cons (pe_lc (own := [("row", 3)]) rfl sc_tight.nd (pi_range1 (by rfl) T.n_range (pa_cons (pv 1) pa_nil)) (blkOk_by (N := N_tight) (sc := defScope s_tight) (by decide +kernel)) (fun _ _ _ _ _ => (pg_name (i := 3) sc_tight.nd rfl (.inl rfl))) (fun _ _ _ _ _ => pts_nil) (fun _ _ _ _ _ => (pe_cmpR op_lt (pe_ix (ixL (K := K)) (pv 0) (pe_op op_add (pe_op op_mul (pv 3) (pv 1)) (pv 3)) (fun _ _ => rfl)) (pe_gint T.g_NOUGHT) (nomark _)))) pa_nil))) (pss_one (ps_ret pe_non)) pss_nil)
      (pss_one (ps_ret (pe_callTy (tupK (K := K)) (by rfl) T.n_tuple (by decide +kernel) (pa_cons (pv 0) pa_nil)))))), ?_⟩
  have hn : (0 : Int) ≤ (n : Int) ∧ (n : Int) ≤ 100000 := ⟨by omega, by omega⟩
  have mul : ∀ i : Nat, i < n → CMul (i : Int) (n : Int) := fun i hi => .inl ⟨by omega, by omega⟩
  refine q_forR1 (ea_cons (ev_var rfl) ea_nil) hn (fun k σ H' => ∃ y2 y3 y4 y5, σ = [some (.ref l), some (.int n), y2, y3, y4, y5] ∧ H' l = some (.lst (zv n (mids n k S))) ∧ Eb l H H') (fun H1 e1 => ⟨none, none, none, none, rfl, e1 l _ hl, Eb.of e1⟩) (fun k σ H1 hk hP => ?_) (fun σ H1 hP => ?_)
  · obtain ⟨y2, y3, y4, y5, rfl, hl1, e1⟩ := hP
    have hk : k < n := by omega
    refine s_forR1 (ea_cons (ev_var rfl) ea_nil) hn (fun i σ H' => ∃ y3 y4 y5, σ = [some (.ref l), some (.int n), some (.int k), y3, y4, y5] ∧ H' l = some (.lst (zv n (rows n k i (mids n k S)))) ∧ Eb l H H') (fun H2 e2 => ⟨y3, y4, y5, rfl, e2 l _ hl1, e1.trans (Eb.of e2)⟩) (fun i σ H2 hi hP => ?_) (fun σ H2 hP => ?_)
    · obtain ⟨y3, y4, y5, rfl, hl2, e2⟩ := hP
      have hi : i < n := by omega
      refine s_forR1 (ea_cons (ev_var rfl) ea_nil) hn (fun j σ H' => ∃ y4 y5, σ = [some (.ref l), some (.int n), some (.int k), some (.int i), y4, y5] ∧ H' l = some (.lst (zv n (at3 n k i j S))) ∧ Eb l H H') (fun H3 e3 => ⟨y4, y5, rfl, e3 l _ hl2, e2.trans (Eb.of e3)⟩) (fun j σ H3 hj hP => ?_) (fun σ H3 hP => ?_)
      · obtain ⟨y4, y5, rfl, hl3, e3⟩ := hP
        have hj : j < n := by omega
        have sm : ∀ a b, a < n → b < n → Zm.Cl1 (at3 n k i j S a b) := fun a b ha hb => Zm.cl_small (by decide) (Zm.up_at_all hn4 hk hi hj hup a b ha hb)
        have es : sumE (enc (at3 n k i j S i k)) (enc (at3 n k i j S k j)) = enc (both (at3 n k i j S i k) (at3 n k i j S k j)) := Zm.sumE_enc (sm i k hi hk) (sm k j hk hj)
        have el : less (both (at3 n k i j S i k) (at3 n k i j S k j)) (at3 n k i j S i j) = decide (enc (both (at3 n k i j S i k) (at3 n k i j S k j)) < enc (at3 n k i j S i j)) :=
          Zm.less_enc (fun x hx => by have := Zm.up_at hn4 hk hi hj hup x hx; omega) (fun x hx => by have := Zm.up_at_all hn4 hk hi hj hup i j hi hj x hx; omega)
        have eN : at3 n k i (j + 1) S = Zm.step k i j (at3 n k i j S) := rfl
        have hsq : SqL K H3 l (zv n (at3 n k i j S)) := .inl (.inl hl3)
        refine q_asg (v := .int (enc (both (at3 n k i j S i k) (at3 n k i j S k j)))) (ev_is (ev_call (ea_cons (ev_op (ev_var rfl) (ev_op (ev_op (ev_var rfl) (ev_var rfl) (rv_I (mul i hi))) (ev_var rfl) rv_I0) (rv_ixL hsq (zv_at hi hk rfl)))
          (ea_cons (ev_op (ev_var rfl) (ev_op (ev_op (ev_var rfl) (ev_var rfl) (rv_I (mul k hk))) (ev_var rfl) rv_I0) (rv_ixL hsq (zv_at hk hj rfl))) ea_nil)) sv_sum_of) (by rw [es])) fun H4 e4 => ?_
        have hl4 := e4 l _ hl3
        refine s_when (b := less (both (at3 n k i j S i k) (at3 n k i j S k j)) (at3 n k i j S i j)) (et_is (et_test (ev_op (ev_var rfl) (ev_op (ev_var rfl) (ev_op (ev_op (ev_var rfl) (ev_var rfl) (rv_I (mul i hi))) (ev_var rfl) rv_I0) (rv_ixL (ex_l e4 hsq) (zv_at hi hj rfl))) rv_I0)) el.symm) (fun hb H5 e5 => ?_) (fun hb H5 e5 => ?_)
        · refine s_setL (j := i * n + j) (e5 l _ hl4) (ev_var rfl) (ev_var rfl) (ev_is (ev_op (ev_op (ev_var rfl) (ev_var rfl) (rv_I (mul i hi))) (ev_var rfl) rv_I0) (by simp)) (by rw [zv_len]; exact Zm.place_lt hi hj) fun H6 e6 => ?_
          refine ⟨some (.int j), _, rfl, ?_, (((e3.trans (Eb.of e4)).trans (Eb.of e5)).trans (Eb.of e6)).upd⟩
          rw [upd_same, zv_set hi hj, eN]
          unfold Zm.step
          rw [if_pos hb]
        · refine ⟨some (.int j), _, rfl, ?_, (e3.trans (Eb.of e4)).trans (Eb.of e5)⟩
          rw [eN]
          unfold Zm.step
          rw [hb, if_neg Bool.false_ne_true]
          exact e5 l _ hl4
      · obtain ⟨y4, y5, rfl, hl3, e3⟩ := hP
        exact ⟨_, _, _, rfl, hl3, e3⟩
    · obtain ⟨y3, y4, y5, rfl, hl2, e2⟩ := hP
      exact ⟨_, _, _, _, rfl, hl2, e2⟩
  · obtain ⟨y2, y3, y4, y5, rfl, hl1, e1⟩ := hP
    have hl1 : H1 l = some (.lst (zv n (fw n S))) := hl1
    have hsq : SqL K H1 l (zv n (fw n S)) := .inl (.inl hl1)
    have hneg : neg n (fw n S) = (List.range n).any fun i => decide (enc (fw n S i i) < 1) := Zm.neg_enc fun i j hi hj x hx => by
      have := Zm.up_fw hn4 hup i j hi hj x hx
      omega
    refine q_when (b := neg n (fw n S)) (et_is (et_B (ev_anyR (fun i => decide (enc (fw n S i i) < 1)) (ea_cons (ev_var rfl) ea_nil) ⟨by omega, by omega⟩ (fun x => rfl) fun i H2 e2 hi => ?_)) hneg.symm) (fun hb H2 e2 => ?_) fun hb H2 e2 => ?_
    · have hi : i < n := by omega
      exact ev_op (ev_op (ev_var rfl) (ev_op (ev_op (ev_var rfl) (ev_var rfl) (rv_I (mul i hi))) (ev_var rfl) rv_I0) (rv_ixL (ex_l e2 hsq) (zv_at hi hi rfl))) ev_c rv_I0
    · exact s_ret ev_c fun H3 e3 => k1 hb H3 (e1.trans (Eb.of (e2.trans e3)))
    · refine s_retU (eu_tupL (ev_var rfl) (ex_l e2 hsq)) fun p H3 hp e3 h3 => k2 hb p H3 ?_ (e1.trans (Eb.of (e2.trans e3))) h3
      have hp1 : H1 p = none := fresh_back e2 hp
      refine e1.free (fun z => ?_) hp1
      rw [z, hl1] at hp1
      cases hp1
end
end Zb
set_option Elab.async false
set_option linter.all false
set_option maxRecDepth 100000
set_option maxHeartbeats 4000000
namespace Zb
open PySem PySem.Spec PyProof.Rows L2 L2.DX Zg Evl
open StX (pa_star tStar)
open RZ (pi_zipA iZipA ItzT)
open Zm (sumE Sq B zl enc dec fw neg Up both less at3 mids rows cols Edge gmin gall EdgeOk Zn NonNeg Clo)

/-! ### clocks by their places -/
def ckL (m : Nat) : List V := (List.range m).map fun i : Nat => V.int ((i : Nat) : Int)
theorem ckL_get {m j : Nat} (h : j < m) : (ckL m)[j]? = some (.int (j : Int)) := by
  unfold ckL
  rw [List.getElem?_map, List.getElem?_range h]
  rfl
section
variable {K : PySem.W.Frag} {σ : L2.St} {H H' : Hp} {ta tb tc te tx : TE} {t u : TT} {x y z v : V} {r : R2} {D : Ends} {tu tw tz : TS}
theorem ev_index {c : Addr} {m j : Nat} (ha : Ev ta σ H (.ref c)) (hc : SqL K H c (ckL m)) (hb : Ev tb σ H (.int (j : Int))) (hj : j < m) : Ev (tBM K "list" (rIndex K) ta (tCons tb tNil)) σ H (.int (j : Int)) := fun H1 e Q q =>
  ha H1 e _ fun H2 e2 => ⟨.inl ⟨rfl, _, ex_l (e.trans e2) hc⟩, hb H2 (e.trans e2) _ fun H3 e3 => ⟨c, ckL m, .int (j : Int), j, .int (j : Int), rfl, rfl, ex_l ((e.trans e2).trans e3) hc, rfl, by
    unfold ckL
    rw [List.all_map, List.all_eq_true]
    intro i _
    rfl, ckL_get hj, by simp [eqV], fun m' z' hm hz => by
      rw [ckL_get (by omega)] at hz
      have := Option.some.inj hz
      rw [← this]
      simp [eqV]
      omega, q H3 (e2.trans e3)⟩⟩
/-- a new tuple, filled so often -/
theorem eu_rep {xs : List V} {k : Int} (ha : EvU ta σ H xs) (hb : Ev tb σ H (.int k)) (h1 : xs ≠ []) (h2 : 2 ≤ k) (h3 : k ≤ 1000) (h4 : xs.length ≤ 1000) : EvU (tOp (rRepT K) ta tb) σ H (List.replicate k.toNat xs).flatten := fun H1 e Q q =>
  ha H1 e _ fun p H2 hp e2 h2' => hb H2 (e.trans e2) _ fun H3 e3 => ⟨p, k, xs, rfl, rfl, st_of (e3 p _ h2'), h1, h2, h3, h4, fun l hl => q l _ (fresh_back e2 (fresh_back e3 hl)) ((e2.trans e3).trans (Ex.new hl)) upd_same⟩
end
def leV : V → V → Bool
  | .int a, .int b => decide (a ≤ b)
  | _, _ => false
def intsLe (xs ys : List Int) : Bool := (xs.zip ys).all fun q => decide (q.1 ≤ q.2)
theorem intsLe_v (xs ys : List Int) : (((xs.map V.int).zip (ys.map V.int)).all fun q => leV q.1 q.2) = intsLe xs ys := by
  unfold intsLe
  rw [List.zip_map, List.all_map]
  rfl
section
variable {P : Program} {w : World} {K : PySem.W.Frag} {mg : Str → Option Value} {base : Heap} {aU aC : Addr}
/-! ### begin_zone, passed -/
def spBegin : Sp := fun vs H Q _ => ∃ m : Nat, vs = [.int m] ∧ 1 ≤ m ∧ m ≤ 3 ∧ RetU (zv (m + 1) fun _ _ => Zm.nil) H Q
theorem rep_zv (n : Nat) : (List.replicate (n * n) [V.int 1]).flatten = zv n fun _ _ => Zm.nil := by
  unfold zv zl
  rw [List.map_map]
  have e : ∀ m : Nat, (List.replicate m [V.int 1]).flatten = List.replicate m (V.int 1) := fun m => by
    induction m with
    | zero => rfl
    | succ m ih =>
      rw [List.replicate_succ, List.flatten_cons, ih]
      rfl
  rw [e]
  refine List.ext_getElem? fun i => ?_
  rw [List.getElem?_map]
  by_cases h : i < n * n
  · rw [List.getElem?_replicate_of_lt h, List.getElem?_range h]
    rfl
  · rw [List.getElem?_eq_none (by simpa using h), List.getElem?_eq_none (by simpa using h)]
    rfl
theorem c_begin_zone (T : Tx K mg aU aC) (D : Df K mg "begin_zone" s_begin_zone ["many"]) : Cl P w K mg base 1 "begin_zone" spBegin := by
  refine D.cl sc_begin_zone (fun vs H Q E h => by obtain ⟨_, rfl, _⟩ := h; rfl) (fun f cdv A outer s H vs Q E hr h => ?_)
  obtain ⟨m, rfl, h1, h3, k⟩ := h
  refine ⟨_, (pss_one (ps_ret (pe_op op_repT (pe_tup (pa_cons (pe_gint T.g_NOUGHT) pa_nil)) (pe_op op_mul (pe_op op_add (pv 0) pe_int) (pe_op op_add (pv 0) pe_int))))), ?_⟩
  have hk : ((m : Int) + 1) * ((m : Int) + 1) = (((m + 1) * (m + 1) : Nat) : Int) := by simp
  have hb : 4 ≤ (m + 1) * (m + 1) ∧ (m + 1) * (m + 1) ≤ 16 := by
    have : m = 1 ∨ m = 2 ∨ m = 3 := by omega
    rcases this with rfl | rfl | rfl <;> decide
  refine s_retU (eu_rep (eu_tup (ea_cons ev_c ea_nil) (by show 1 ≤ 100000; decide)) (ev_is (ev_op (ev_op (ev_var rfl) ev_c rv_I0) (ev_op (ev_var rfl) ev_c rv_I0) (rv_I (.inl ⟨by omega, by omega⟩))) (congrArg V.int hk)) (by simp) (by omega) (by omega) (by show 1 ≤ 1000; decide)) fun p H1 hp e h => k p H1 hp e ?_
  rw [h, ← rep_zv]
  rfl
def spPassed (K : PySem.W.Frag) : Sp := fun vs H Q _ => ∃ (a : Addr) (n : Nat) (S : Sq), vs = [.ref a] ∧ SqT K H a (zv n S) ∧ 1 ≤ n ∧ n ≤ 4 ∧ RetU (zv n (Zm.lat S)) H Q
theorem c_passed (T : Tx K mg aU aC) (D : Df K mg "passed" s_passed ["zone"]) (c_side_of : Cl P w K mg base 1 "side_of" (spSide K)) : Cl P w K mg base 2 "passed" (spPassed K) := by
  refine D.cl sc_passed (fun vs H Q E h => by obtain ⟨_, _, _, rfl, _⟩ := h; rfl) (fun f cdv A outer s H vs Q E hr h => ?_)
  obtain ⟨a, n, S, rfl, ha, h1, h4, k⟩ := h
  refine ⟨_, (pss_cons (ps_par (i := 1) (j := 2) rfl sc_passed.nd rfl rfl (by decide) rfl rfl (pa_cons (pe_cl c_side_of hr (by decide) (by rfl) (pa_cons (pv 0) pa_nil)) (pa_cons (pe_callTy (listK (K := K)) (by rfl) T.n_list (by decide +kernel) (pa_cons (pv 0) pa_nil)) pa_nil)) rfl)
      (pss_cons (ps_for PassesOwn.never rfl (pi_range2 (by rfl) T.n_range (pa_cons pe_int (pa_cons (pv 1) pa_nil))) (pg_name (i := 3) sc_passed.nd rfl (.inl rfl)) (pss_one (ps_asg (pe_gint T.g_FAR) (pg_sub (pv 2) (pe_op op_mul (pv 3) (pv 1)) set_list))))
      (pss_one (ps_ret (pe_callTy (tupK (K := K)) (by rfl) T.n_tuple (by decide +kernel) (pa_cons (pv 2) pa_nil)))))), ?_⟩
  refine q_parL (ev_call (ea_cons (ev_var rfl) ea_nil) (sv_side ha (zv_len n S) h1 (by omega))) (el_listT (ev_var rfl) ha) fun l H1 hl e1 h1l => ?_
  refine q_forR2 (lo := 1) (n := (n : Int)) (ea_cons ev_c (ea_cons (ev_var rfl) ea_nil)) ⟨by omega, by omega, by omega, by omega⟩ (fun m σ H2 => ∃ y, σ = [some (.ref a), some (.int n), some (.ref l), y] ∧ Ex H H2 ∧ H2 l = some (.lst (zv n (Zm.latTo m S)))) (fun H2 e2 => ⟨none, rfl, e1.trans e2, by rw [e2 l _ h1l, Zm.latTo_zero]⟩) (fun m σ H2 hm hP => ?_) (fun σ H2 hP => ?_)
  · obtain ⟨y, rfl, e2, h2l⟩ := hP
    have hm1 : 1 + m < n := by omega
    refine s_setL (j := (1 + m) * n + 0) h2l ev_c (ev_var rfl) (ev_is (ev_op (ev_var rfl) (ev_var rfl) (rv_I (.inl ⟨by omega, by omega⟩))) (by simp)) (by rw [zv_len]; exact Zm.place_lt hm1 (by omega)) fun H3 e3 => ⟨some (.int (1 + (m : Int))), rfl, Ex.mut (e2.trans e3) hl, ?_⟩
    rw [upd_same]
    have e := zv_set (S := Zm.latTo m S) (v := none) hm1 (show 0 < n by omega)
    rw [show enc none = 1000000 from rfl, Zm.latTo_succ] at e
    rw [e]
  · obtain ⟨y, rfl, e2, h2l⟩ := hP
    refine s_retU (eu_tupL (ev_var rfl) (sq_of h2l)) fun p H3 hp e3 h3 => k p H3 (fresh_back e2 hp) (e2.trans e3) ?_
    rw [h3]
    have e := Zm.zl_congr (Zm.latTo_all (n := n) (m := ((n : Int) - 1).toNat) S (by omega))
    unfold zv
    rw [e]
/-! ### set_back -/
def spSetBack (K : PySem.W.Frag) : Sp := fun vs H Q _ => ∃ (a c p : Addr) (n : Nat) (S : Sq) (ps : List Nat), vs = [.ref a, .ref c, .ref p] ∧ SqT K H a (zv n S) ∧ SqL K H c (ckL (n - 1)) ∧ SqT K H p (ps.map fun i : Nat => V.int ((i : Nat) : Int)) ∧ (∀ i ∈ ps, i + 1 < n) ∧ 1 ≤ n ∧ n ≤ 4 ∧ ps.length ≤ 1000 ∧ RetU (zv n (Zm.sbAll S ps)) H Q
theorem c_set_back (T : Tx K mg aU aC) (D : Df K mg "set_back" s_set_back ["zone", "clocks", "resets"]) (c_side_of : Cl P w K mg base 1 "side_of" (spSide K)) : Cl P w K mg base 2 "set_back" (spSetBack K) := by
  refine D.cl sc_set_back (fun vs H Q E h => by obtain ⟨_, _, _, _, _, _, rfl, _⟩ := h; rfl) (fun f cdv A outer s H vs Q E hr h => ?_)
  obtain ⟨a, c, p, n, S, ps, rfl, ha, hc, hp, hps, h1, h4, hpl, k⟩ := h
  refine ⟨_, (pss_cons (ps_par (i := 3) (j := 4) rfl sc_set_back.nd rfl rfl (by decide) rfl rfl (pa_cons (pe_cl c_side_of hr (by decide) (by rfl) (pa_cons (pv 0) pa_nil)) (pa_cons (pe_callTy (listK (K := K)) (by rfl) T.n_list (by decide +kernel) (pa_cons (pv 0) pa_nil)) pa_nil)) rfl)
      (pss_cons (ps_for PassesOwn.never rfl (pi_tup (pv 2)) (pg_name (i := 5) sc_set_back.nd rfl (.inl rfl)) (pss_cons (ps_set (i := 6) sc_set_back.nd rfl (.inl rfl) (pe_op op_add pe_int (pe_bm PySem.F.plainAttrs_list PySem.F.slot_list_index PySem.F.type_list_index mt_index (pv 1) (pa_cons (pv 5) pa_nil))))
      (pss_one (ps_for PassesOwn.never rfl (pi_range1 (by rfl) T.n_range (pa_cons (pv 3) pa_nil)) (pg_name (i := 7) sc_set_back.nd rfl (.inl rfl)) (pss_one (ps_if (pt_cmpR op_ne (pv 7) (pv 6) (nomark _)) (pss_cons (ps_asg (pe_ix (ixL (K := K)) (pv 4) (pv 7) (fun _ _ => rfl)) (pg_sub (pv 4) (pe_op op_add (pe_op op_mul (pv 6) (pv 3)) (pv 7)) set_list))
      (pss_one (ps_asg (pe_ix (ixL (K := K)) (pv 4) (pe_op op_mul (pv 7) (pv 3)) (fun _ _ => rfl)) (pg_sub (pv 4) (pe_op op_add (pe_op op_mul (pv 7) (pv 3)) (pv 6)) set_list)))) pss_nil))))))
      (pss_one (ps_ret (pe_callTy (tupK (K := K)) (by rfl) T.n_tuple (by decide +kernel) (pa_cons (pv 4) pa_nil)))))), ?_⟩
  have hn : (0 : Int) ≤ (n : Int) ∧ (n : Int) ≤ 100000 := ⟨by omega, by omega⟩
  refine q_parL (ev_call (ea_cons (ev_var rfl) ea_nil) (sv_side ha (zv_len n S) h1 (by omega))) (el_listT (ev_var rfl) ha) fun l H1 hl e1 h1l => ?_
  refine q_forT (ev_var rfl) (ex_t e1 hp) (fun m σ H2 => ∃ y5 y6 y7, σ = [some (.ref a), some (.ref c), some (.ref p), some (.int n), some (.ref l), y5, y6, y7] ∧ Ex H H2 ∧ H2 l = some (.lst (zv n (Zm.sbAll S (ps.take m))))) (fun H2 e2 => ⟨none, none, none, rfl, e1.trans e2, by rw [e2 l _ h1l]; rfl⟩) (fun m σ H2 _ hP => ?_) (fun m x σ H2 hx hP => ?_) (fun σ H2 hP => ?_)
  · obtain ⟨_, _, _, _, e2, _⟩ := hP
    exact ex_t e2 hp
  · obtain ⟨y5, y6, y7, rfl, e2, h2l⟩ := hP
    rw [List.getElem?_map] at hx
    obtain ⟨q, hq, rfl⟩ := Option.map_eq_some_iff.mp hx
    have hqn : q + 1 < n := hps q (List.mem_of_getElem? hq)
    refine q_asg (v := .int ((q + 1 : Nat) : Int)) (ev_is (ev_op ev_c (ev_index (m := n - 1) (j := q) (ev_var rfl) (ex_l e2 hc) (ev_var rfl) (by omega)) rv_I0) (by congr 1; omega)) fun H3 e3 => ?_
    refine s_forR1 (ea_cons (ev_var rfl) ea_nil) hn (fun o σ H4 => ∃ y7, σ = [some (.ref a), some (.ref c), some (.ref p), some (.int n), some (.ref l), some (.int (q : Int)), some (.int ((q + 1 : Nat) : Int)), y7] ∧ Ex H H4 ∧ H4 l = some (.lst (zv n (Zm.sbTo (q + 1) o (Zm.sbAll S (ps.take m)))))) (fun H4 e4 => ⟨y7, rfl, (e2.trans e3).trans e4, by rw [e4 l _ (e3 l _ h2l), Zm.sbTo_zero]⟩) (fun o σ H4 ho hP => ?_) (fun σ H4 hP => ?_)
    · obtain ⟨y7, rfl, e4, h4l⟩ := hP
      have ho : o < n := by omega
      have hne : (!decide (V.int (o : Int) = V.int ((q + 1 : Nat) : Int))) = !decide (o = q + 1) := by
        by_cases z : o = q + 1
        · rw [z]
          simp
        · rw [decide_eq_false z, decide_eq_false (fun y => z (by injection y with y; omega))]
      refine s_when (b := !decide (o = q + 1)) (et_is (et_test (ev_op (ev_var rfl) (ev_var rfl) (rv_ne rfl))) hne) (fun hb H5 e5 => ?_) (fun hb H5 e5 => ?_)
      · have hoq : o ≠ q + 1 := by simpa using hb
        have r1 : Zm.sbTo (q + 1) o (Zm.sbAll S (ps.take m)) 0 o = Zm.sbAll S (ps.take m) 0 o := Zm.sbTo_row _ (by omega) hoq
        have r2 : Zm.sbTo (q + 1) o (Zm.sbAll S (ps.take m)) o 0 = Zm.sbAll S (ps.take m) o 0 := Zm.sbTo_col _ (by omega) hoq
        have h5l := e5 l _ h4l
        refine q_setL (j := (q + 1) * n + o) (v := .int (enc (Zm.sbAll S (ps.take m) 0 o))) h5l (ev_is (ev_op (ev_var rfl) (ev_var rfl) (rv_ixL (sq_of h5l) (zv_at (i := 0) (j := o) (by omega) ho (by simp)))) (by rw [r1])) (ev_var rfl) (ev_is (ev_op (ev_op (ev_var rfl) (ev_var rfl) (rv_I (.inl ⟨by omega, by omega⟩))) (ev_var rfl) rv_I0) (by simp)) (by rw [zv_len]; exact Zm.place_lt hqn ho) fun H6 e6 => ?_
        rw [zv_set hqn ho]
        have h6l : (upd H6 l (.lst (zv n (Zm.put (Zm.sbTo (q + 1) o (Zm.sbAll S (ps.take m))) (q + 1) o (Zm.sbAll S (ps.take m) 0 o))))) l = some (.lst (zv n (Zm.put (Zm.sbTo (q + 1) o (Zm.sbAll S (ps.take m))) (q + 1) o (Zm.sbAll S (ps.take m) 0 o)))) := upd_same
        have r3 : Zm.put (Zm.sbTo (q + 1) o (Zm.sbAll S (ps.take m))) (q + 1) o (Zm.sbAll S (ps.take m) 0 o) o 0 = Zm.sbAll S (ps.take m) o 0 := by
          rw [Zm.put_ne (fun z => hoq z.1), r2]
        refine s_setL (j := o * n + (q + 1)) (v := .int (enc (Zm.sbAll S (ps.take m) o 0))) h6l (ev_is (ev_op (ev_var rfl) (ev_op (ev_var rfl) (ev_var rfl) (rv_I (.inl ⟨by omega, by omega⟩))) (rv_ixL (sq_of h6l) (zv_at (i := o) (j := 0) ho (by omega) (by simp)))) (by rw [r3])) (ev_var rfl) (ev_is (ev_op (ev_op (ev_var rfl) (ev_var rfl) (rv_I (.inl ⟨by omega, by omega⟩))) (ev_var rfl) rv_I0) (by simp)) (by rw [zv_len]; exact Zm.place_lt ho hqn) fun H7 e7 => ?_
        refine ⟨some (.int (o : Int)), rfl, Ex.mut ((Ex.mut ((e4.trans e5).trans e6) hl).trans e7) hl, ?_⟩
        rw [upd_same, zv_set ho hqn, Zm.sbTo_succ _ hoq]
      · have hoq : o = q + 1 := by simpa using hb
        subst hoq
        refine ⟨some (.int ((q + 1 : Nat) : Int)), rfl, e4.trans e5, ?_⟩
        rw [Zm.sbTo_same]
        exact e5 l _ h4l
    · obtain ⟨y7, rfl, e4, h4l⟩ := hP
      refine ⟨_, _, _, rfl, e4, ?_⟩
      rw [h4l]
      have e : Zm.sbAll S (ps.take (m + 1)) = Zm.sb (q + 1) (Zm.sbAll S (ps.take m)) := by
        unfold Zm.sbAll
        rw [List.take_add_one, hq, List.foldl_append]
        rfl
      rw [e]
      have e2 := Zm.zl_congr (Zm.sbTo_all (n := n) (a := q + 1) (Zm.sbAll S (ps.take m)))
      show some (HO.lst (zv n (Zm.sbTo (q + 1) n (Zm.sbAll S (ps.take m))))) = _
      unfold zv
      rw [e2]
  · obtain ⟨y5, y6, y7, rfl, e2, h2l⟩ := hP
    rw [List.length_map, List.take_length] at h2l
    refine s_retU (eu_tupL (ev_var rfl) (sq_of h2l)) fun p H3 hp e3 h3 => k p H3 (fresh_back e2 hp) (e2.trans e3) h3
/-! ### lies_within -/
def spLies (K : PySem.W.Frag) : Sp := fun vs H Q _ => ∃ (a b : Addr) (xs ys : List Int), vs = [.ref a, .ref b] ∧ SqT K H a (xs.map V.int) ∧ SqT K H b (ys.map V.int) ∧ xs.length = ys.length ∧ xs.length ≤ 1000 ∧ RetV (.bl (intsLe xs ys)) H Q
theorem c_lies_within (T : Tx K mg aU aC) (D : Df K mg "lies_within" s_lies_within ["one", "other"]) : Cl P w K mg base 1 "lies_within" (spLies K) := by
  refine D.cl sc_lies_within (fun vs H Q E h => by obtain ⟨_, _, _, _, rfl, _⟩ := h; rfl) (fun f cdv A outer s H vs Q E hr h => ?_)
  obtain ⟨a, b, xs, ys, rfl, ha, hb, hl, hz, k⟩ := h
  refine ⟨_, (pss_one (ps_ret (pe_callB (allK (K := K) rfl) (by rfl) T.n_all (by decide +kernel) (pa_cons (pe_lc (own := [("mine", 2), ("its", 3)]) rfl sc_lies_within.nd (pi_zipA (by rfl) T.n_zip (pa_cons (pv 0) (pa_cons (pv 1) pa_nil))) (blkOk_by (N := N_lies_within) (sc := defScope s_lies_within) (by decide +kernel)) (fun _ _ _ _ _ => (tgK (K := K) (n := 2) rfl (pgs_cons (pg_name (i := 2) sc_lies_within.nd rfl (.inl rfl)) (pgs_cons (pg_name (i := 3) sc_lies_within.nd rfl (.inl rfl)) pgs_nil)))) (fun _ _ _ _ _ => pts_nil) (fun _ _ _ _ _ => (pe_cmpR op_le (pv 2) (pv 3) (nomark _)))) pa_nil)))), ?_⟩
  refine s_ret (ev_is (ev_allZ leV (ea_cons (ev_var rfl) (ea_cons (ev_var rfl) ea_nil)) ha hb (by simp [hl]) (by rw [List.length_map]; omega) fun x y T H1 H2 e1 hm e2 hT Q' k' => ?_) (congrArg V.bl (intsLe_v xs ys))) fun H1 e => k H1 e
  obtain ⟨i, hi⟩ := List.mem_iff_getElem?.mp hm
  obtain ⟨hx, hy⟩ := List.getElem?_zip_eq_some.mp hi
  rw [List.getElem?_map] at hx hy
  obtain ⟨x1, _, ex⟩ := Option.map_eq_some_iff.mp hx
  obtain ⟨y1, _, ey⟩ := Option.map_eq_some_iff.mp hy
  dsimp only at ex ey
  subst ex ey
  refine ⟨T, _, rfl, st_of hT, rfl, _, _, rfl, _, _, rfl, rfl, k' _ rfl ?_⟩
  exact ev_op (ev_var rfl) (ev_var rfl) rv_I0
end
end Zb
set_option Elab.async false
set_option linter.all false
set_option maxRecDepth 100000
set_option maxHeartbeats 4000000
namespace Zb
open PySem PySem.Spec PyProof.Rows L2 L2.DX Zg Evl
open StX (pa_star tStar)
open RZ (pi_zipA iZipA ItzT)
/-! ### data of numbers -/
theorem ints_lay : ∀ xs : List Int, PyData.canLayAll0 (xs.map PyData.int) = true
  | [] => by simp [PyData.canLayAll0]
  | x :: xs => by simp [PyData.canLayAll0, PyData.canLay0, ints_lay xs]
theorem ints_depth : ∀ xs : List Int, PyData.depthAll (xs.map PyData.int) ≤ 2
  | [] => by simp [PyData.depthAll]
  | x :: xs => by
    have h1 := ints_depth xs
    simp only [List.map_cons, PyData.depthAll, PyData.depth]
    omega
theorem shaped_tints (xs : List Int) : SeqAt.shaped (.tuple (xs.map PyData.int)) = true := by
  have h1 := ints_depth xs
  have h2 : PyData.depth (.tuple (xs.map PyData.int)) ≤ 64 := by
    simp only [PyData.depth]
    omega
  show (PyData.canLay0 (.tuple (xs.map PyData.int)) && decide (PyData.depth (.tuple (xs.map PyData.int)) ≤ 64)) = true
  rw [Bool.and_eq_true]
  exact ⟨by simp only [PyData.canLay0]; exact ints_lay xs, decide_eq_true h2⟩
theorem eqv_ints : ∀ xs ys : List Int, PyData.eqvAll (xs.map PyData.int) (ys.map PyData.int) = decide (xs = ys)
  | [], [] => by simp [PyData.eqvAll]
  | [], y :: ys => by simp [PyData.eqvAll]
  | x :: xs, [] => by simp [PyData.eqvAll]
  | x :: xs, y :: ys => by
    simp only [List.map_cons, PyData.eqvAll, PyData.eqv, eqv_ints xs ys, List.cons.injEq, Bool.decide_and]
    rfl
theorem eqv_tints (xs ys : List Int) : PyData.eqv (.tuple (xs.map PyData.int)) (.tuple (ys.map PyData.int)) = decide (xs = ys) := by
  simp only [PyData.eqv, eqv_ints]
theorem eqv_non_t (ys : List PyData) : PyData.eqv .none (.tuple ys) = false := by simp [PyData.eqv]
theorem eqv_t_non (ys : List PyData) : PyData.eqv (.tuple ys) .none = false := by simp [PyData.eqv]
theorem eqv_non : PyData.eqv .none .none = true := by simp [PyData.eqv]
theorem dp_t {K : PySem.W.Frag} {H : Hp} {p : Addr} {xs : List Int} (h : SqT K H p (xs.map V.int)) : Dp K H (.ref p) (.tuple (xs.map PyData.int)) := .tup h dp_ints
/-! ### rows of tuples -/
def RwAt (K : PySem.W.Frag) (H : Hp) (as : List Addr) (xss : List (List V)) : Prop := as.length = xss.length ∧ ∀ (i : Nat) (a : Addr) (xs : List V), as[i]? = some a → xss[i]? = some xs → SqT K H a xs
def RwT (K : PySem.W.Frag) (H : Hp) (p : Addr) (xss : List (List V)) : Prop := ∃ as, SqT K H p (as.map V.ref) ∧ RwAt K H as xss
theorem RwAt.ex {K : PySem.W.Frag} {H H1 : Hp} {as : List Addr} {xss : List (List V)} (h : RwAt K H as xss) (e : Ex H H1) : RwAt K H1 as xss := ⟨h.1, fun i a xs h1 h2 => ex_t e (h.2 i a xs h1 h2)⟩
theorem RwT.ex {K : PySem.W.Frag} {H H1 : Hp} {p : Addr} {xss : List (List V)} (h : RwT K H p xss) (e : Ex H H1) : RwT K H1 p xss := by
  obtain ⟨as, h1, h2⟩ := h
  exact ⟨as, ex_t e h1, h2.ex e⟩
theorem RwAt.nil {K : PySem.W.Frag} {H : Hp} : RwAt K H [] [] := ⟨rfl, fun i a xs h => by cases h⟩
theorem RwAt.snoc {K : PySem.W.Frag} {H : Hp} {as : List Addr} {xss : List (List V)} {a : Addr} {xs : List V} (h : RwAt K H as xss) (ha : SqT K H a xs) : RwAt K H (as ++ [a]) (xss ++ [xs]) := by
  obtain ⟨hl, h⟩ := h
  refine ⟨by simp [hl], fun i b ys h1 h2 => ?_⟩
  by_cases q : i < as.length
  · rw [List.getElem?_append_left q] at h1
    rw [List.getElem?_append_left (by omega)] at h2
    exact h i b ys h1 h2
  · rw [List.getElem?_append_right (by omega)] at h1
    rw [List.getElem?_append_right (by omega)] at h2
    by_cases z : i = as.length
    · rw [z, Nat.sub_self] at h1
      rw [z, hl, Nat.sub_self] at h2
      injection h1 with h1
      injection h2 with h2
      rw [← h1, ← h2]
      exact ha
    · rw [List.getElem?_eq_none (by simp; omega)] at h1
      cases h1
theorem RwAt.cons {K : PySem.W.Frag} {H : Hp} {as : List Addr} {xss : List (List V)} {a : Addr} {xs : List V} (h : RwAt K H as xss) (ha : SqT K H a xs) : RwAt K H (a :: as) (xs :: xss) := by
  obtain ⟨hl, h⟩ := h
  refine ⟨by simp [hl], fun i b ys h1 h2 => ?_⟩
  cases i with
  | zero =>
    injection h1 with h1
    injection h2 with h2
    rw [← h1, ← h2]
    exact ha
  | succ i => exact h i b ys h1 h2
/-- the row at a place -/
theorem RwAt.get {K : PySem.W.Frag} {H : Hp} {as : List Addr} {xss : List (List V)} (h : RwAt K H as xss) {i : Nat} {xs : List V} (hi : xss[i]? = some xs) : ∃ a, as[i]? = some a ∧ SqT K H a xs := by
  obtain ⟨hl, h⟩ := h
  have hlt : i < as.length := by
    rw [hl]
    exact (List.getElem?_eq_some_iff.mp hi).1
  exact ⟨as[i], List.getElem?_eq_getElem hlt, h i _ _ (List.getElem?_eq_getElem hlt) hi⟩
/-! ### promises: none, or a tuple -/
def RetX (b : Bool) (xs : List V) (H : Hp) (Q : VK) : Prop := (b = true → RetV .non H Q) ∧ (b = false → RetU xs H Q)
section
variable {K : PySem.W.Frag} {σ : L2.St} {H H' : Hp} {ta tb tc te tx : TE} {t u : TT} {x y z v : V} {r : R2} {D : Ends} {tu tw tz : TS}
theorem eu_if {b : Bool} {xs : List V} (h : EvT t σ H b) (h1 : b = true → EvU ta σ H xs) (h2 : b = false → EvU tb σ H xs) : EvU (tIf t ta tb) σ H xs := fun H1 e Q q => h H1 e _ fun H2 e2 => by
  cases b with
  | true =>
    rw [if_pos rfl]
    exact h1 rfl H2 (e.trans e2) Q fun p H3 hp e3 h3 => q p H3 (fresh_back e2 hp) (e2.trans e3) h3
  | false =>
    rw [if_neg Bool.false_ne_true]
    exact h2 rfl H2 (e.trans e2) Q fun p H3 hp e3 h3 => q p H3 (fresh_back e2 hp) (e2.trans e3) h3
theorem eu_is {xs ys : List V} (h : EvU te σ H xs) (e : xs = ys) : EvU te σ H ys := by
  rw [← e]
  exact h
theorem ev_lenS {w : Str} (ha : Ev ta σ H (.str w)) (hw : w.length ≤ 100000) : Ev (tCB (fun xs H Q => ∃ z : Str, xs = [.str z] ∧ z.length ≤ sizeLine ∧ Q (.int z.length) H) (tCons ta tNil)) σ H (.int (w.length : Int)) := fun H1 e Q q =>
  ha H1 e _ fun H2 e2 => ⟨w, rfl, sz_of hw, q H2 e2⟩
/-- (a, b) = .. -/
theorem s_unp2 {i j : Nat} (h : EvU te σ H [x, y]) (k : ∀ H1, Ex H H1 → D.nx ((σ.set i (some x)).set j (some y)) H1) : tAsg te (gTup K 2 (gCons (gName i) (gCons (gName j) gNil))) D σ H :=
  h H (Ex.refl H) _ fun p H1 hp e h1 => ⟨p, _, rfl, st_of h1, rfl, _, _, rfl, _, _, rfl, rfl, k H1 e⟩
theorem q_unp2 {i j : Nat} (h : EvU te σ H [x, y]) (k : ∀ H1, Ex H H1 → tz D ((σ.set i (some x)).set j (some y)) H1) : tSeq (tAsg te (gTup K 2 (gCons (gName i) (gCons (gName j) gNil)))) tz D σ H := s_unp2 (D := { D with nx := tz D }) h k
/-- for (a, b, c) in a tuple of tuples: the target's part -/
theorem g_unp3 {a : Addr} {i j k : Nat} {Q : L2.St → Hp → Prop} (h : SqT K H a [x, y, z]) (q : Q (((σ.set i (some x)).set j (some y)).set k (some z)) H) : gTup K 3 (gCons (gName i) (gCons (gName j) (gCons (gName k) gNil))) (.ref a) σ H Q :=
  ⟨a, _, rfl, h, rfl, _, _, rfl, _, _, rfl, _, _, rfl, rfl, q⟩
theorem g_unp2 {a : Addr} {i j : Nat} {Q : L2.St → Hp → Prop} (h : SqT K H a [x, y]) (q : Q ((σ.set i (some x)).set j (some y)) H) : gTup K 2 (gCons (gName i) (gCons (gName j) gNil)) (.ref a) σ H Q :=
  ⟨a, _, rfl, h, rfl, _, _, rfl, _, _, rfl, rfl, q⟩
/-- for .. in a tuple, any target -/
theorem ev_ixVT {p : Addr} {xs : List V} {i : Int} (h : Ev ta σ H (.ref p)) (hb : Ev tb σ H (.int i)) (hp : SqT K H p xs) (ha : atI xs i = some v) : Ev (tOp (rIxT K) ta tb) σ H v := ev_op h hb (rv_ixT hp ha)
theorem s_retC {sp : Sp} {dvs vs : List V} {E : XK} {ta : TA} (h : EvA ta σ H vs) (k : ∀ H1, Ex H H1 → sp (vs ++ dvs) H1 D.rt E) : tRet (tCall sp dvs E ta) D σ H := h H (Ex.refl H) _ k
theorem el_U {xs : List V} {tl : TE} {j : Nat} {vs : List Nat} (p : V → V) (h : EvU tl σ H xs) (hz : xs.length ≤ 40000) (hw : ∀ x, wipe ((wipe σ vs).set j (some x)) vs = wipe σ vs)
    (he : ∀ (x : V) H1, Ex H H1 → x ∈ xs → Ev te ((wipe σ vs).set j (some x)) H1 (p x)) :
    EvL (tLc (iTup K tl) (gName j) tYes te vs) σ H (xs.map p) := fun H0 e Q q => h H0 e _ fun a H1 ha e1 h1 =>
  el_T (K := K) (tl := tC (.ref a)) p ev_c (st_of h1) hz hw (fun x H2 e2 hx => he x H2 ((e.trans e1).trans e2) hx) H1 (Ex.refl H1) Q fun p H2 hp e2 h2 => q p H2 (fresh_back e1 hp) (e1.trans e2) h2
theorem ev_anyU {xs : List V} {tl : TE} {j : Nat} {vs : List Nat} (p : V → Bool) (h : EvU tl σ H xs) (hz : xs.length ≤ 40000) (hw : ∀ x, wipe ((wipe σ vs).set j (some x)) vs = wipe σ vs)
    (he : ∀ (x : V) H1, Ex H H1 → x ∈ xs → Ev te ((wipe σ vs).set j (some x)) H1 (.bl (p x))) : Ev (tCB (rAny K) (tCons (tLc (iTup K tl) (gName j) tYes te vs) tNil)) σ H (.bl (xs.any p)) := by
  have e := el_U (K := K) (fun x => V.bl (p x)) h hz hw he
  rw [show (fun i => V.bl (p i)) = V.bl ∘ p from rfl, ← List.map_map] at e
  have e2 := ev_anyN (K := K) e
  rw [List.any_map] at e2
  exact e2
/-- a call that gives none, or a tuple -/
def SpX (sp : Sp) (vs : List V) (H : Hp) (b : Bool) (xs : List V) : Prop := ∀ H1, Ex H H1 → ∀ Q : VK, RetX b xs H1 Q → ∀ E : XK, sp vs H1 Q E
def EvX (te : TE) (σ : L2.St) (H : Hp) (b : Bool) (xs : List V) : Prop := ∀ H1, Ex H H1 → ∀ Q : VK, RetX b xs H1 Q → te σ H1 Q
theorem RetX.go {b : Bool} {xs : List V} {Q : VK} (k : RetX b xs H Q) (e : Ex H H') : RetX b xs H' Q := ⟨fun h H2 e2 => k.1 h H2 (e.trans e2), fun h p H2 hp e2 h2 => k.2 h p H2 (fresh_back e hp) (e.trans e2) h2⟩
theorem ex_call {sp : Sp} {dvs vs xs : List V} {E : XK} {ta : TA} {b : Bool} (h : EvA ta σ H vs) (hs : SpX sp (vs ++ dvs) H b xs) : EvX (tCall sp dvs E ta) σ H b xs := fun H1 e Q q =>
  h H1 e _ fun H2 e2 => hs H2 (e.trans e2) Q (q.go e2) _
end
end Zb
set_option Elab.async false
set_option linter.all false
set_option maxRecDepth 100000
set_option maxHeartbeats 4000000
namespace Zb
open PySem PySem.Spec PyProof.Rows L2 L2.DX Zg Evl
open StX (pa_star tStar)
open RZ (pi_zipA iZipA ItzT)
open Zm (sumE Sq B zl enc dec fw neg Up both less at3 mids rows cols Edge gmin gall EdgeOk Zn NonNeg Clo)

def Bd (c : Int) (n : Nat) (S : Sq) : Prop := ∀ i j, i < n → j < n → ∀ x, S i j = some x → -c ≤ x.1 ∧ x.1 ≤ c
theorem Bd.up {c : Int} {n : Nat} {S : Sq} (h : Bd c n S) : Up c n S := fun i j hi hj x hx => (h i j hi hj x hx).2
theorem enc_bd {c : Int} {b : B} (h : ∀ x, b = some x → -c ≤ x.1 ∧ x.1 ≤ c) : enc b = 1000000 ∨ (-(2 * c) ≤ enc b ∧ enc b ≤ 2 * c + 1) := by
  cases b with
  | none => exact .inl rfl
  | some x =>
    have h1 := h x rfl
    obtain ⟨k, p⟩ := x
    refine .inr ?_
    cases p <;> simp [enc] at h1 ⊢ <;> omega
def zoneB (n : Nat) (S : Sq) : Bool := !((List.range n).any fun j => decide (enc (S 0 j) > 1)) && ((List.range n).all fun i => decide (enc (S i i) = 1)) && (!neg n (fw n S) && decide (zl n (fw n S) = zl n S))
theorem int_eq (i j : Int) : decide (V.int i = V.int j) = decide (i = j) := by
  by_cases h : i = j
  · rw [h]
    simp
  · rw [decide_eq_false h, decide_eq_false (fun z => h (by injection z))]
/-! ### guards -/
def opS (g : Zm.Gi) : Str := if g.up then (if g.inc then "<=" else "<") else (if g.inc then ">=" else ">")
def gvs (g : Zm.Gi) : List V := [.int (g.c : Int), .str (opS g), .int (g.k : Int)]
theorem opS_len (g : Zm.Gi) : decide (((opS g).length : Int) = 2) = g.inc := by
  unfold opS
  cases g.up <;> cases g.inc <;> decide
theorem opS_small (g : Zm.Gi) : (opS g).length ≤ 100000 := by
  unfold opS
  cases g.up <;> cases g.inc <;> decide
theorem opS_up (g : Zm.Gi) : inV (.str (opS g)) [.str "<", .str "<="] = g.up := by
  unfold opS
  cases g.up <;> cases g.inc <;> decide
theorem opS_in (g : Zm.Gi) : inV (.str (opS g)) [.str "<", .str "<=", .str ">", .str ">="] = true := by
  unfold opS
  cases g.up <;> cases g.inc <;> decide
section
variable {P : Program} {w : World} {K : PySem.W.Frag} {mg : Str → Option Value} {base : Heap} {aU aC : Addr}
/-! ### is_fraction -/
def spFrac (K : PySem.W.Frag) : Sp := fun vs H Q _ => ∃ (a : Addr) (t l : Int), vs = [.ref a] ∧ SqT K H a [.int t, .int l] ∧ 1 ≤ l ∧ Nat.gcd t.natAbs l.natAbs = 1 ∧ RetV (.bl true) H Q
theorem sv_frac {a : Addr} {t l : Int} {H : Hp} (h : SqT K H a [.int t, .int l]) (h1 : 1 ≤ l) (h2 : Nat.gcd t.natAbs l.natAbs = 1) : SpV (spFrac K) [.ref a] H (.bl true) := fun H1 e Q q E => ⟨a, t, l, rfl, ex_t e h, h1, h2, fun H2 e => q H2 e⟩
theorem c_is_fraction (T : Tx K mg aU aC) (D : Df K mg "is_fraction" s_is_fraction ["value"]) (c_is_integer : Cl P w K mg base 1 "is_integer" spIsInteger) (c_common : Cl P w K mg base 1 "common" spCommon) : Cl P w K mg base 2 "is_fraction" (spFrac K) := by
  refine D.cl sc_is_fraction (fun vs H Q E h => by obtain ⟨_, _, _, rfl, _⟩ := h; rfl) (fun f cdv A outer s H vs Q E hr h => ?_)
  obtain ⟨a, t, l, rfl, ha, h1, h2, k⟩ := h
  refine ⟨_, (pss_cons (ps_if (PW.pt (pw_or (pt_not (pt_val (pe_callB (isiK (K := K)) (by rfl) T.n_isinstance (by decide +kernel) (pa_cons (pv 0) (pa_cons (pe_gty (n := "tuple") T.n_tuple (by decide +kernel)) pa_nil))))) (pw_or (pt_cmpR op_ne (pe_callB (lenK (K := K)) (by rfl) T.n_len PySem.boot_len (pa_cons (pv 0) pa_nil)) pe_int (nomark _)) (pw_or (pt_not (pt_val (pe_cl c_is_integer hr (by decide) (by rfl) (pa_cons (pe_ix (ixT (K := K)) (pv 0) pe_int (fun _ _ => rfl)) pa_nil)))) (pw_or1 (pt_not (pt_val (pe_cl c_is_integer hr (by decide) (by rfl) (pa_cons (pe_ix (ixT (K := K)) (pv 0) pe_int (fun _ _ => rfl)) pa_nil))))))))) (pss_one (ps_ret pe_bl)) pss_nil)
      (pss_one (ps_ret (pe_and (pe_cmpR op_ge (pe_ix (ixT (K := K)) (pv 0) pe_int (fun _ _ => rfl)) pe_int (nomark _)) (pe_one (pe_cmpR op_eq (pe_cl c_common hr (by decide) (by rfl) (pa_cons (pe_ix (ixT (K := K)) (pv 0) pe_int (fun _ _ => rfl)) (pa_cons (pe_ix (ixT (K := K)) (pv 0) pe_int (fun _ _ => rfl)) pa_nil))) pe_int (nomark _))))))), ?_⟩
  refine q_when (b := false) (et_or (a := false) (et_is (et_not (a := true) (et_test (ev_isiT (ev_var rfl) ha (by decide +kernel)))) rfl) fun _ => et_or (a := false) (et_is (et_test (ev_op (ev_lenT (ev_var rfl) ha) ev_c (rv_ne rfl))) (by simp)) fun _ =>
    et_or (a := false) (et_is (et_not (a := true) (et_test (ev_call (ea_cons (ev_ixVT (ev_var rfl) ev_c ha (by rfl)) ea_nil) sv_is_integer))) rfl) fun _ => et_is (et_not (a := true) (et_test (ev_call (ea_cons (ev_ixVT (ev_var rfl) ev_c ha (by rfl)) ea_nil) sv_is_integer))) rfl) (fun hb => by cases hb) fun _ H1 e1 => ?_
  have ha := ex_t e1 ha
  refine s_ret (ev_is (ev_andV (ev_op (ev_ixVT (ev_var rfl) ev_c ha (by rfl)) ev_c rv_I0) fun _ => ev_op (ev_call (ea_cons (ev_ixVT (ev_var rfl) ev_c ha (by rfl)) (ea_cons (ev_ixVT (ev_var rfl) ev_c ha (by rfl)) ea_nil)) sv_common) ev_c (rv_eq rfl)) ?_) fun H2 e2 => k H2 (e1.trans e2)
  rw [h2, int_eq, decide_eq_true (show l ≥ 1 from h1)]
  rfl
/-! ### guarded -/
theorem ex_tight {ta tb : TE} {σ : L2.St} {H : Hp} {a : Addr} {n : Nat} {S : Sq} (ha : Ev ta σ H (.ref a)) (hs : SqT K H a (zv n S)) (hb : Ev tb σ H (.int n)) (h1 : 1 ≤ n) (h4 : n ≤ 4) (hu : Up 1000 n S) :
    EvX (tCall spTight [] E0 (tCons (tCB (rListS K) (tCons ta tNil)) (tCons tb tNil))) σ H (neg n (fw n S)) (zv n (fw n S)) := fun H1 e Q q =>
  el_listT (K := K) ha hs H1 e _ fun l H2 hl e2 h2 => hb H2 (e.trans e2) _ fun H3 e3 =>
    ⟨l, n, S, rfl, e3 l _ h2, h1, h4, hu, fun hn H4 e4 => q.1 hn H4 (Eb.ex (e2.trans e3) hl e4), fun hn p H4 hp e4 h4 => q.2 hn p H4 (fresh_back (e2.trans e3) hp) (Eb.ex (e2.trans e3) hl e4) h4⟩
def spGuarded (K : PySem.W.Frag) : Sp := fun vs H Q _ => ∃ (a c g : Addr) (n : Nat) (S : Sq) (gs : List Zm.Gi), vs = [.ref a, .ref c, .ref g] ∧ SqT K H a (zv n S) ∧ SqL K H c (ckL (n - 1)) ∧ RwT K H g (gs.map gvs) ∧ (∀ g ∈ gs, Zm.GiOk n g) ∧ 1 ≤ n ∧ n ≤ 4 ∧ gs.length ≤ 1000 ∧ Up 900 n S ∧
  RetX (neg n (fw n (gall S (gs.map Zm.Gi.edge)))) (zv n (fw n (gall S (gs.map Zm.Gi.edge)))) H Q
theorem sx_guarded {a c g : Addr} {n : Nat} {S : Sq} {gs : List Zm.Gi} {H : Hp} (h1 : SqT K H a (zv n S)) (h2 : SqL K H c (ckL (n - 1))) (h3 : RwT K H g (gs.map gvs)) (h4 : ∀ g ∈ gs, Zm.GiOk n g) (h5 : 1 ≤ n) (h6 : n ≤ 4) (h7 : gs.length ≤ 1000) (h8 : Up 900 n S) :
    SpX (spGuarded K) [.ref a, .ref c, .ref g] H (neg n (fw n (gall S (gs.map Zm.Gi.edge)))) (zv n (fw n (gall S (gs.map Zm.Gi.edge)))) := fun H1 e Q q E => ⟨a, c, g, n, S, gs, rfl, ex_t e h1, ex_l e h2, h3.ex e, h4, h5, h6, h7, h8, q⟩
theorem c_guarded (T : Tx K mg aU aC) (D : Df K mg "guarded" s_guarded ["zone", "clocks", "guard"]) (c_side_of : Cl P w K mg base 1 "side_of" (spSide K)) (c_bound_of : Cl P w K mg base 1 "bound_of" spBoundOf) (c_tight : Cl P w K mg base 2 "tight" spTight) : Cl P w K mg base 3 "guarded" (spGuarded K) := by
  refine D.cl sc_guarded (fun vs H Q E h => by obtain ⟨_, _, _, _, _, _, rfl, _⟩ := h; rfl) (fun f cdv A outer s H vs Q E hr h => ?_)
  obtain ⟨a, c, g, n, S, gs, rfl, ha, hc, hg, hok, h1, h4, hgl, hup, k⟩ := h
  obtain ⟨as, hg1, hg2⟩ := hg
  refine ⟨_, (pss_cons (ps_par (i := 3) (j := 4) rfl sc_guarded.nd rfl rfl (by decide) rfl rfl (pa_cons (pe_cl c_side_of hr (by decide) (by rfl) (pa_cons (pv 0) pa_nil)) (pa_cons (pe_callTy (listK (K := K)) (by rfl) T.n_list (by decide +kernel) (pa_cons (pv 0) pa_nil)) pa_nil)) rfl)
      (pss_cons (ps_for PassesOwn.never rfl (pi_tup (pv 2)) (tgK (K := K) (n := 3) rfl (pgs_cons (pg_name (i := 5) sc_guarded.nd rfl (.inl rfl)) (pgs_cons (pg_name (i := 6) sc_guarded.nd rfl (.inl rfl)) (pgs_cons (pg_name (i := 7) sc_guarded.nd rfl (.inl rfl)) pgs_nil)))) (pss_cons (ps_set (i := 8) sc_guarded.nd rfl (.inl rfl) (pe_op op_add pe_int (pe_bm PySem.F.plainAttrs_list PySem.F.slot_list_index PySem.F.type_list_index mt_index (pv 1) (pa_cons (pv 5) pa_nil))))
      (pss_cons (ps_set (i := 9) sc_guarded.nd rfl (.inl rfl) (pe_cmpR op_eq (pe_callB call_len_str (by rfl) T.n_len PySem.boot_len (pa_cons (pv 6) pa_nil)) pe_int (nomark _)))
      (pss_cons (ps_asg (pe_ifExp (pt_cmpR (inK (K := K)) (pv 6) (pe_gref T.g_UPPER) (by with_unfolding_all rfl)) (pe_tup (pa_cons (pe_op op_mul (pv 8) (pv 3)) (pa_cons (pv 7) pa_nil))) (pe_tup (pa_cons (pv 8) (pa_cons (pe_op op_sub pe_int (pv 7)) pa_nil)))) (tgK (K := K) (n := 2) rfl (pgs_cons (pg_name (i := 10) sc_guarded.nd rfl (.inl rfl)) (pgs_cons (pg_name (i := 11) sc_guarded.nd rfl (.inl rfl)) pgs_nil))))
      (pss_one (ps_asg (pe_callB (call_min2 rfl) (by rfl) T.n_min (by decide +kernel) (pa_cons (pe_ix (ixL (K := K)) (pv 4) (pv 10) (fun _ _ => rfl)) (pa_cons (pe_cl c_bound_of hr (by decide) (by rfl) (pa_cons (pv 11) (pa_cons (pv 9) pa_nil))) pa_nil))) (pg_sub (pv 4) (pv 10) set_list)))))))
      (pss_one (ps_ret (pe_cl c_tight hr (by decide) (by rfl) (pa_cons (pv 4) (pa_cons (pv 3) pa_nil))))))), ?_⟩
  have hok' : ∀ e ∈ gs.map Zm.Gi.edge, EdgeOk n e := fun e he => by
    obtain ⟨g, hg, rfl⟩ := List.mem_map.mp he
    exact (hok g hg).edge
  refine q_parL (ev_call (ea_cons (ev_var rfl) ea_nil) (sv_side ha (zv_len n S) h1 (by omega))) (el_listT (ev_var rfl) ha) fun l H1 hl e1 h1l => ?_
  refine q_forT (ev_var rfl) (ex_t e1 hg1) (fun m σ H2 => ∃ y5 y6 y7 y8 y9 y10 y11, σ = [some (.ref a), some (.ref c), some (.ref g), some (.int n), some (.ref l), y5, y6, y7, y8, y9, y10, y11] ∧ Ex H H2 ∧ H2 l = some (.lst (zv n (gall S ((gs.take m).map Zm.Gi.edge))))) (fun H2 e2 => ⟨none, none, none, none, none, none, none, rfl, e1.trans e2, by rw [e2 l _ h1l]; rfl⟩) (fun m σ H2 _ hP => ?_) (fun m x σ H2 hx hP => ?_) (fun σ H2 hP => ?_)
  · obtain ⟨_, _, _, _, _, _, _, _, e2, _⟩ := hP
    exact ex_t e2 hg1
  · obtain ⟨y5, y6, y7, y8, y9, y10, y11, rfl, e2, h2l⟩ := hP
    rw [List.getElem?_map] at hx
    obtain ⟨q, hq, rfl⟩ := Option.map_eq_some_iff.mp hx
    have hml : m < gs.length := by
      have h3 := (List.getElem?_eq_some_iff.mp hq).1
      rw [hg2.1, List.length_map] at h3
      exact h3
    have hgm : gs[m]? = some gs[m] := List.getElem?_eq_getElem hml
    generalize hgi : gs[m] = gi at hgm
    have hgo : Zm.GiOk n gi := hok gi (List.mem_of_getElem? hgm)
    have hrow : SqT K H2 q (gvs gi) := (hg2.ex e2).2 m q _ hq (by rw [List.getElem?_map, hgm]; rfl)
    refine g_unp3 hrow ?_
    generalize hG : gall S ((gs.take m).map Zm.Gi.edge) = G at h2l
    have hGu : Up 900 n G := by
      rw [← hG]
      refine Zm.gall_up hup (by decide) fun e he => hok' e ?_
      obtain ⟨z, hz, rfl⟩ := List.mem_map.mp he
      exact List.mem_map.mpr ⟨z, List.mem_of_mem_take hz, rfl⟩
    have hn : (0 : Int) ≤ n := by omega
    have hc1 := hgo.c
    refine q_asg (v := .int ((gi.c + 1 : Nat) : Int)) (ev_is (ev_op ev_c (ev_index (m := n - 1) (j := gi.c) (ev_var rfl) (ex_l e2 hc) (ev_var rfl) (by omega)) rv_I0) (by congr 1; omega)) fun H3 e3 => ?_
    refine q_asg (v := .bl gi.inc) (ev_is (ev_op (ev_lenS (ev_var rfl) (opS_small gi)) ev_c (rv_eq rfl)) (by rw [int_eq, opS_len])) fun H4 e4 => ?_
    refine q_unp2 (x := .int ((gi.edge.i * n + gi.edge.j : Nat) : Int)) (y := .int gi.edge.b.1) (eu_if (b := gi.up) (et_is (et_test (ev_op (ev_var rfl) ev_c (rv_isT (T.k_UPPER _) rfl rfl))) (opS_up gi)) (fun hu => ?_) fun hu => ?_) fun H5 e5 => ?_
    · refine eu_is (eu_tup (ea_cons (ev_op (ev_var rfl) (ev_var rfl) (rv_I (.inl ⟨by omega, by omega⟩))) (ea_cons (ev_var rfl) ea_nil)) (by show 2 ≤ 100000; decide)) ?_
      unfold Zm.Gi.edge
      rw [hu, if_pos rfl]
      simp
    · refine eu_is (eu_tup (ea_cons (ev_var rfl) (ea_cons (ev_op ev_c (ev_var rfl) rv_I0) ea_nil)) (by show 2 ≤ 100000; decide)) ?_
      unfold Zm.Gi.edge
      rw [hu, if_neg Bool.false_ne_true]
      simp
    · have hE := hgo.edge
      have hEi : gi.edge.i < n ∧ gi.edge.j < n := by
        rcases hE with ⟨p1, p2, p3, _, _⟩ | ⟨p1, p2, p3, _, _⟩ <;> exact ⟨by omega, by omega⟩
      have hEb : gi.edge.b.1 ≤ 12 := by
        rcases hE with ⟨_, _, _, _, p⟩ | ⟨_, _, _, _, p⟩ <;> omega
      have h5l := e5 l _ (e4 l _ (e3 l _ h2l))
      have hbi : gi.edge.b.2 = gi.inc := by
        unfold Zm.Gi.edge
        split <;> rfl
      have hval : 2 * gi.edge.b.1 + b01 gi.inc = enc (some gi.edge.b) := by
        rw [← hbi]
        rfl
      refine s_setL (j := gi.edge.i * n + gi.edge.j) (v := .int (enc (if enc (some gi.edge.b) < enc (G gi.edge.i gi.edge.j) then some gi.edge.b else G gi.edge.i gi.edge.j))) h5l
        (ev_is (ev_min2 (i := enc (G gi.edge.i gi.edge.j)) (j := enc (some gi.edge.b)) (ev_op (ev_var rfl) (ev_var rfl) (rv_ixL (sq_of h5l) (zv_at hEi.1 hEi.2 (by simp)))) (ev_is (ev_call (ea_cons (ev_var rfl) (ea_cons (ev_var rfl) ea_nil)) sv_bound_of) (congrArg V.int hval))) ?_)
        (ev_var rfl) (ev_var rfl) (by rw [zv_len]; exact Zm.place_lt hEi.1 hEi.2) fun H6 e6 => ?_
      · by_cases z : enc (some gi.edge.b) < enc (G gi.edge.i gi.edge.j)
        · rw [if_pos z, if_pos z]
        · rw [if_neg z, if_neg z]
      · refine ⟨_, _, _, _, _, _, _, rfl, Ex.mut ((((e2.trans e3).trans e4).trans e5).trans e6) hl, ?_⟩
        rw [upd_same, zv_set hEi.1 hEi.2, Zm.gmin_put (fun x hx => by have := hGu _ _ hEi.1 hEi.2 x hx; omega) (by omega), List.take_add_one, hgm, ← hG]
        unfold gall
        rw [List.map_append, List.foldl_append]
        rfl
  · obtain ⟨y5, y6, y7, y8, y9, y10, y11, rfl, e2, h2l⟩ := hP
    rw [List.length_map, hg2.1, List.length_map, List.take_length] at h2l
    have hu2 : Up 1000 n (gall S (gs.map Zm.Gi.edge)) := fun i j hi hj x hx => by
      have := Zm.gall_up hup (by decide) hok' i j hi hj x hx
      omega
    exact s_retC (ea_cons (ev_var rfl) (ea_cons (ev_var rfl) ea_nil)) fun H3 e3 => ⟨l, n, _, rfl, e3 l _ h2l, h1, h4, hu2, fun hn H4 e4 => k.1 hn H4 (Eb.ex (e2.trans e3) hl e4), fun hn p H4 hp e4 h4 => k.2 hn p H4 (fresh_back (e2.trans e3) hp) (Eb.ex (e2.trans e3) hl e4) h4⟩
/-! ### is_zone_of, is_zone, check_zone -/
theorem zv_mem {n : Nat} {S : Sq} {x : V} (h : x ∈ zv n S) : ∃ i j, i < n ∧ j < n ∧ x = .int (enc (S i j)) := by
  obtain ⟨z, hz, rfl⟩ := List.mem_map.mp h
  obtain ⟨p, hp, rfl⟩ := List.mem_map.mp hz
  have hp := List.mem_range.mp hp
  exact ⟨p / n, p % n, Zm.div_lt_of hp, Zm.mod_lt_of hp, rfl⟩
theorem all_true {α : Type} (xs : List α) : (xs.all fun _ => true) = true := by simp
def spZoneOf (K : PySem.W.Frag) : Sp := fun vs H Q _ => ∃ (m : Nat) (a : Addr) (n : Nat) (S : Sq), vs = [.int m, .ref a] ∧ SqT K H a (zv n S) ∧ 1 ≤ n ∧ n ≤ 4 ∧ 1 ≤ m ∧ m ≤ 3 ∧ Bd 1000 n S ∧ RetV (.bl (decide (m + 1 = n) && zoneB n S)) H Q
theorem sv_zone_of {m : Nat} {a : Addr} {n : Nat} {S : Sq} {H : Hp} (h : SqT K H a (zv n S)) (h1 : 1 ≤ n) (h2 : n ≤ 4) (h3 : 1 ≤ m) (h4 : m ≤ 3) (h5 : Bd 1000 n S) : SpV (spZoneOf K) [.int m, .ref a] H (.bl (decide (m + 1 = n) && zoneB n S)) := fun H1 e Q q E => ⟨m, a, n, S, rfl, ex_t e h, h1, h2, h3, h4, h5, fun H2 e => q H2 e⟩
theorem c_is_zone_of (T : Tx K mg aU aC) (D : Df K mg "is_zone_of" s_is_zone_of ["many", "value"]) (c_is_integer : Cl P w K mg base 1 "is_integer" spIsInteger) (c_is_between : Cl P w K mg base 2 "is_between" spIsBetween) (c_tight : Cl P w K mg base 2 "tight" spTight) : Cl P w K mg base 3 "is_zone_of" (spZoneOf K) := by
  refine D.cl sc_is_zone_of (fun vs H Q E h => by obtain ⟨_, _, _, _, rfl, _⟩ := h; rfl) (fun f cdv A outer s H vs Q E hr h => ?_)
  obtain ⟨m, a, n, S, rfl, ha, h1, h4, hm1, hm3, hbd, k⟩ := h
  refine ⟨_, (pss_cons (ps_set (i := 2) sc_is_zone_of.nd rfl (.inr rfl) (pe_op op_add (pv 0) pe_int))
      (pss_cons (ps_if (PW.pt (pw_or (pt_not (pt_val (pe_callB (isiK (K := K)) (by rfl) T.n_isinstance (by decide +kernel) (pa_cons (pv 1) (pa_cons (pe_gty (n := "tuple") T.n_tuple (by decide +kernel)) pa_nil))))) (pw_or (pt_cmpR op_ne (pe_callB (lenK (K := K)) (by rfl) T.n_len PySem.boot_len (pa_cons (pv 1) pa_nil)) (pe_op op_mul (pv 2) (pv 2)) (nomark _)) (pw_or1 (pt_not (pt_val (pe_callB (allK (K := K) rfl) (by rfl) T.n_all (by decide +kernel) (pa_cons (pe_lc (own := [("bound", 4)]) rfl sc_is_zone_of.nd (pi_tup (pv 1)) (blkOk_by (N := N_is_zone_of) (sc := defScope s_is_zone_of) (by decide +kernel)) (fun _ _ _ _ _ => (pg_name (i := 4) sc_is_zone_of.nd rfl (.inl rfl))) (fun _ _ _ _ _ => pts_nil) (fun _ _ _ _ _ => (pe_cl c_is_integer hr (by decide) (by rfl) (pa_cons (pv 4) pa_nil)))) pa_nil)))))))) (pss_one (ps_ret pe_bl)) pss_nil)
      (pss_cons (ps_if (pt_not (pt_val (pe_callB (allK (K := K) rfl) (by rfl) T.n_all (by decide +kernel) (pa_cons (pe_lc (own := [("bound", 4)]) rfl sc_is_zone_of.nd (pi_tup (pv 1)) (blkOk_by (N := N_is_zone_of) (sc := defScope s_is_zone_of) (by decide +kernel)) (fun _ _ _ _ _ => (pg_name (i := 4) sc_is_zone_of.nd rfl (.inl rfl))) (fun _ _ _ _ _ => pts_nil) (fun _ _ _ _ _ => (pe_or (pe_cmpR op_eq (pv 4) (pe_gint T.g_FAR) (nomark _)) (pe_one (pe_cl c_is_between hr (by decide) (by rfl) (pa_cons (pv 4) (pa_cons (pe_op op_sub pe_int (pe_gint T.g_MOST_BOUND)) (pa_cons (pe_gint T.g_MOST_BOUND) pa_nil)))))))) pa_nil)))) (pss_one (ps_ret pe_bl)) pss_nil)
      (pss_cons (ps_if (pt_val (pe_callB (anyK (K := K) rfl) (by rfl) T.n_any (by decide +kernel) (pa_cons (pe_lc (own := [("column", 3)]) rfl sc_is_zone_of.nd (pi_range1 (by rfl) T.n_range (pa_cons (pv 2) pa_nil)) (blkOk_by (N := N_is_zone_of) (sc := defScope s_is_zone_of) (by decide +kernel)) (fun _ _ _ _ _ => (pg_name (i := 3) sc_is_zone_of.nd rfl (.inl rfl))) (fun _ _ _ _ _ => pts_nil) (fun _ _ _ _ _ => (pe_cmpR op_gt (pe_ix (ixT (K := K)) (pv 1) (pv 3) (fun _ _ => rfl)) (pe_gint T.g_NOUGHT) (nomark _)))) pa_nil))) (pss_one (ps_ret pe_bl)) pss_nil)
      (pss_cons (ps_if (pt_not (pt_val (pe_callB (allK (K := K) rfl) (by rfl) T.n_all (by decide +kernel) (pa_cons (pe_lc (own := [("at", 5)]) rfl sc_is_zone_of.nd (pi_range1 (by rfl) T.n_range (pa_cons (pv 2) pa_nil)) (blkOk_by (N := N_is_zone_of) (sc := defScope s_is_zone_of) (by decide +kernel)) (fun _ _ _ _ _ => (pg_name (i := 5) sc_is_zone_of.nd rfl (.inl rfl))) (fun _ _ _ _ _ => pts_nil) (fun _ _ _ _ _ => (pe_cmpR op_eq (pe_ix (ixT (K := K)) (pv 1) (pe_op op_add (pe_op op_mul (pv 5) (pv 2)) (pv 5)) (fun _ _ => rfl)) (pe_gint T.g_NOUGHT) (nomark _)))) pa_nil)))) (pss_one (ps_ret pe_bl)) pss_nil)
      (pss_one (ps_ret (pe_cmpR (eqDK (K := K) (hu64 hr)) (pe_cl c_tight hr (by decide) (by rfl) (pa_cons (pe_callTy (listK (K := K)) (by rfl) T.n_list (by decide +kernel) (pa_cons (pv 1) pa_nil)) (pa_cons (pv 2) pa_nil))) (pv 1) (nomark _))))))))), ?_⟩
  have hz : (zv n S).length ≤ 40000 := by
    rw [zv_len]
    have : n * n ≤ 4 * 4 := Nat.mul_le_mul h4 h4
    omega
  refine q_asg (v := .int ((m + 1 : Nat) : Int)) (ev_is (ev_op (ev_var rfl) ev_c rv_I0) (by simp)) fun H1 e1 => ?_
  have ha1 := ex_t e1 ha
  have hsz : (!decide (V.int ((zv n S).length : Int) = V.int (((m + 1 : Nat) : Int) * ((m + 1 : Nat) : Int)))) = !decide (m + 1 = n) := by
    rw [int_eq, zv_len]
    congr 1
    rw [decide_eq_decide]
    constructor
    · intro e
      have e : n * n = (m + 1) * (m + 1) := by exact_mod_cast e
      rcases Nat.lt_trichotomy (m + 1) n with q | q | q
      · have := Nat.mul_lt_mul_of_lt_of_le' q (Nat.le_of_lt q) (by omega)
        omega
      · exact q
      · have := Nat.mul_lt_mul_of_lt_of_le' q (Nat.le_of_lt q) (by omega)
        omega
    · intro e
      rw [e]
      simp
  refine q_when (b := !decide (m + 1 = n)) (et_is (et_or (a := false) (et_is (et_not (a := true) (et_test (ev_isiT (ev_var rfl) ha1 (by decide +kernel)))) rfl) fun _ => et_or (a := !decide (m + 1 = n)) (b := false) (et_is (et_test (ev_op (ev_lenT (ev_var rfl) ha1) (ev_op (ev_var rfl) (ev_var rfl) (rv_I (.inl ⟨by omega, by omega⟩))) (rv_ne rfl))) hsz) fun _ =>
    et_is (et_not (et_test (ev_allT (fun _ => true) (ev_var rfl) ha1 hz (fun _ => rfl) fun x H2 e2 hx => ?_))) (by rw [all_true]; rfl)) (by simp)) (fun hb H2 e2 => ?_) fun hb H2 e2 => ?_
  · obtain ⟨i, j, hi, hj, rfl⟩ := zv_mem hx
    exact ev_call (ea_cons (ev_var rfl) ea_nil) sv_is_integer
  · refine s_ret ev_c fun H3 e3 => ?_
    have e := k H3 ((e1.trans e2).trans e3)
    have hb' : decide (m + 1 = n) = false := by simpa using hb
    rw [hb', Bool.false_and] at e
    exact e
  have hmn : m + 1 = n := by simpa using hb
  subst hmn
  rw [decide_eq_true rfl, Bool.true_and] at k
  have ha2 := ex_t e2 ha1
  refine q_when (b := false) (et_is (et_not (et_test (ev_allT (fun _ => true) (ev_var rfl) ha2 hz (fun _ => rfl) fun x H3 e3 hx => ?_))) (by rw [all_true]; rfl)) (fun hb => by cases hb) fun _ H3 e3 => ?_
  · obtain ⟨i, j, hi, hj, rfl⟩ := zv_mem hx
    have hB := enc_bd (hbd i j hi hj)
    refine ev_is (ev_orV (a := decide (enc (S i j) = 1000000)) (b := (decide ((0 : Int) - 200000 ≤ enc (S i j)) && decide (enc (S i j) ≤ 200000))) (ev_is (ev_op (ev_var rfl) ev_c (rv_eq rfl)) (by rw [int_eq])) fun _ => ev_call (ea_cons (ev_var rfl) (ea_cons (ev_op ev_c ev_c rv_I0) (ea_cons ev_c ea_nil))) sv_is_between) ?_
    rcases hB with e | e
    · rw [e]
      rfl
    · have q1 : (0 : Int) - 200000 ≤ enc (S i j) := by omega
      have q2 : enc (S i j) ≤ 200000 := by omega
      rw [decide_eq_true q1, decide_eq_true q2]
      simp
  have ha3 := ex_t e3 ha2
  refine q_when (b := (List.range (m + 1)).any fun j => decide (enc (S 0 j) > 1)) (et_test (ev_anyR (n := ((m + 1 : Nat) : Int)) (fun j => decide (enc (S 0 j) > 1)) (ea_cons (ev_var rfl) ea_nil) ⟨by omega, by omega⟩ (fun _ => rfl) fun j H4 e4 hj => ?_)) (fun hb H4 e4 => ?_) fun hb H4 e4 => ?_
  · exact ev_op (ev_ixVT (ev_var rfl) (ev_var rfl) (ex_t e4 ha3) (zv_at (i := 0) (j := j) (by omega) (by omega) (by simp))) ev_c rv_I0
  · refine s_ret ev_c fun H5 e5 => ?_
    have e := k H5 ((((e1.trans e2).trans e3).trans e4).trans e5)
    unfold zoneB at e
    rw [hb] at e
    exact e
  have ha4 := ex_t e4 ha3
  refine q_when (b := !((List.range (m + 1)).all fun i => decide (enc (S i i) = 1))) (et_not (et_test (ev_allR (n := ((m + 1 : Nat) : Int)) (fun i => decide (enc (S i i) = 1)) (ea_cons (ev_var rfl) ea_nil) ⟨by omega, by omega⟩ (fun _ => rfl) fun i H5 e5 hi => ?_))) (fun hb2 H5 e5 => ?_) fun hb2 H5 e5 => ?_
  · have mul : CMul (i : Int) ((m + 1 : Nat) : Int) := .inl ⟨by omega, by omega⟩
    exact ev_is (ev_op (ev_ixVT (ev_var rfl) (ev_op (ev_op (ev_var rfl) (ev_var rfl) (rv_I mul)) (ev_var rfl) rv_I0) (ex_t e5 ha4) (zv_at (i := i) (j := i) (by omega) (by omega) rfl)) ev_c (rv_eq rfl)) (by rw [int_eq])
  · refine s_ret ev_c fun H6 e6 => ?_
    have e := k H6 (((((e1.trans e2).trans e3).trans e4).trans e5).trans e6)
    unfold zoneB at e
    have hb2 : ((List.range (m + 1)).all fun i => decide (enc (S i i) = 1)) = false := by simpa using hb2
    rw [hb2, Bool.and_false, Bool.false_and] at e
    exact e
  have ha5 := ex_t e5 ha4
  have hb2 : ((List.range (m + 1)).all fun i => decide (enc (S i i) = 1)) = true := by simpa using hb2
  have eB : zoneB (m + 1) S = (!neg (m + 1) (fw (m + 1) S) && decide (zl (m + 1) (fw (m + 1) S) = zl (m + 1) S)) := by
    unfold zoneB
    rw [hb, hb2]
    rfl
  rw [eB] at k
  refine ex_tight (K := K) (ev_var rfl) ha5 (ev_var rfl) (by omega) (by omega) hbd.up H5 (Ex.refl _) _ ⟨fun hn H6 e6 => ?_, fun hn p H6 hp e6 h6 => ?_⟩
  · refine ev_var rfl H6 (Ex.refl _) _ fun H7 e7 => ⟨.none, _, .non, dp_t (ex_t (e6.trans e7) ha5), rfl, shaped_tints _, ?_⟩
    rw [eqv_non_t]
    rw [hn] at k
    exact k H7 ((((((e1.trans e2).trans e3).trans e4).trans e5).trans e6).trans e7)
  · refine ev_var rfl H6 (Ex.refl _) _ fun H7 e7 => ⟨_, _, dp_t (st_of (e7 p _ h6)), dp_t (ex_t (e6.trans e7) ha5), shaped_tints _, shaped_tints _, ?_⟩
    rw [eqv_tints]
    rw [hn] at k
    exact k H7 ((((((e1.trans e2).trans e3).trans e4).trans e5).trans e6).trans e7)
def spZone (K : PySem.W.Frag) : Sp := fun vs H Q _ => ∃ (a : Addr) (n : Nat) (S : Sq), vs = [.ref a] ∧ SqT K H a (zv n S) ∧ 2 ≤ n ∧ n ≤ 4 ∧ Bd 1000 n S ∧ RetV (.bl (zoneB n S)) H Q
theorem sv_zone {a : Addr} {n : Nat} {S : Sq} {H : Hp} (h : SqT K H a (zv n S)) (h1 : 2 ≤ n) (h2 : n ≤ 4) (h5 : Bd 1000 n S) : SpV (spZone K) [.ref a] H (.bl (zoneB n S)) := fun H1 e Q q E => ⟨a, n, S, rfl, ex_t e h, h1, h2, h5, fun H2 e => q H2 e⟩
theorem c_is_zone (T : Tx K mg aU aC) (D : Df K mg "is_zone" s_is_zone ["value"]) (c_is_zone_of : Cl P w K mg base 3 "is_zone_of" (spZoneOf K)) : Cl P w K mg base 4 "is_zone" (spZone K) := by
  refine D.cl sc_is_zone (fun vs H Q E h => by obtain ⟨_, _, _, rfl, _⟩ := h; rfl) (fun f cdv A outer s H vs Q E hr h => ?_)
  obtain ⟨a, n, S, rfl, ha, h1, h4, hbd, k⟩ := h
  refine ⟨_, (pss_one (ps_ret (pe_callB (anyK (K := K) rfl) (by rfl) T.n_any (by decide +kernel) (pa_cons (pe_lc (own := [("many", 1)]) rfl sc_is_zone.nd (pi_tup (pe_tup (pa_cons pe_int (pa_cons pe_int (pa_cons pe_int pa_nil))))) (blkOk_by (N := N_is_zone) (sc := defScope s_is_zone) (by decide +kernel)) (fun _ _ _ _ _ => (pg_name (i := 1) sc_is_zone.nd rfl (.inl rfl))) (fun _ _ _ _ _ => pts_nil) (fun _ _ _ _ _ => (pe_cl c_is_zone_of hr (by decide) (by rfl) (pa_cons (pv 1) (pa_cons (pv 0) pa_nil))))) pa_nil)))), ?_⟩
  have hv : ([V.int 1, V.int 2, V.int 3].any fun x => match x with | .int z => decide (z.toNat + 1 = n) && zoneB n S | _ => false) = zoneB n S := by
    have : n = 2 ∨ n = 3 ∨ n = 4 := by omega
    rcases this with rfl | rfl | rfl <;> cases zoneB _ S <;> rfl
  refine s_ret (ev_is (ev_anyU (fun x => match x with | .int z => decide (z.toNat + 1 = n) && zoneB n S | _ => false) (eu_tup (ea_cons ev_c (ea_cons ev_c (ea_cons ev_c ea_nil))) (by show 3 ≤ 100000; decide)) (by show 3 ≤ 40000; decide) (fun _ => rfl) fun x H1 e1 hx => ?_) (congrArg V.bl hv)) fun H1 e => k H1 e
  have hx : x = .int ((1 : Nat) : Int) ∨ x = .int ((2 : Nat) : Int) ∨ x = .int ((3 : Nat) : Int) := by simpa using hx
  rcases hx with rfl | rfl | rfl <;> exact ev_call (ea_cons (ev_var rfl) (ea_cons (ev_var rfl) ea_nil)) (sv_zone_of (ex_t e1 ha) (by omega) h4 (by decide) (by decide) hbd)
def spCheck (K : PySem.W.Frag) : Sp := fun vs H Q _ => ∃ (a : Addr) (n : Nat) (S : Sq), vs = [.ref a] ∧ SqT K H a (zv n S) ∧ 2 ≤ n ∧ n ≤ 4 ∧ Bd 1000 n S ∧ zoneB n S = true ∧ RetV .non H Q
theorem sv_check {a : Addr} {n : Nat} {S : Sq} {H : Hp} (h : SqT K H a (zv n S)) (h1 : 2 ≤ n) (h2 : n ≤ 4) (h5 : Bd 1000 n S) (hz : zoneB n S = true) : SpV (spCheck K) [.ref a] H .non := fun H1 e Q q E => ⟨a, n, S, rfl, ex_t e h, h1, h2, h5, hz, fun H2 e => q H2 e⟩
theorem c_check_zone (T : Tx K mg aU aC) (D : Df K mg "check_zone" s_check_zone ["zone"]) (c_is_zone : Cl P w K mg base 4 "is_zone" (spZone K)) : Cl P w K mg base 5 "check_zone" (spCheck K) := by
  refine D.cl sc_check_zone (fun vs H Q E h => by obtain ⟨_, _, _, rfl, _⟩ := h; rfl) (fun f cdv A outer s H vs Q E hr h => ?_)
  obtain ⟨a, n, S, rfl, ha, h1, h4, hbd, hz, k⟩ := h
  refine ⟨_, (pss_one (ps_if (pt_not (pt_val (pe_cl c_is_zone hr (by decide) (by rfl) (pa_cons (pv 0) pa_nil)))) (pss_one ps_never) pss_nil)), ?_⟩
  refine s_when (b := false) (et_is (et_not (et_test (ev_call (ea_cons (ev_var rfl) ea_nil) (sv_zone ha h1 h4 hbd)))) (by rw [hz]; rfl)) (fun hb => by cases hb) fun _ H1 e1 => k H1 e1
end
end Zb
set_option Elab.async false
set_option linter.all false
set_option maxRecDepth 100000
set_option maxHeartbeats 4000000
namespace Zb
open PySem PySem.Spec PyProof.Rows L2 L2.DX Zg Evl
open StX (pa_star tStar)
open RZ (pi_zipA iZipA ItzT)
open Zm (sumE Sq B zl enc dec fw neg Up both less at3 mids rows cols Edge gmin gall EdgeOk Zn NonNeg Clo)

/-! ### fractions -/
def fvs (q : Int × Int) : List V := [.int q.1, .int q.2]
structure FrOk (q : Int × Int) : Prop where
  t0 : 0 ≤ q.1
  t1 : q.1 ≤ 1000000
  l0 : 1 ≤ q.2
  l1 : q.2 ≤ 1000000
  g : Nat.gcd q.1.natAbs q.2.natAbs = 1
def ev0 (qs : List (Int × Int)) (i : Nat) : Int × Int := ((0, 1) :: qs).getD i (0, 1)
def okB : B → Int × Int → Int × Int → Bool
  | none, _, _ => true
  | some b, x, y => !(decide (x.1 * y.2 - y.1 * x.2 > b.1 * x.2 * y.2) || (decide (x.1 * y.2 - y.1 * x.2 = b.1 * x.2 * y.2) && !b.2))
def holdsB (n : Nat) (S : Sq) (f : Nat → Int × Int) : Bool := (List.range n).all fun i => (List.range n).all fun j => okB (S i j) (f i) (f j)
theorem all_range_succ (m : Nat) (p : Nat → Bool) : (List.range (m + 1)).all p = ((List.range m).all p && p m) := by
  rw [List.range_succ, List.all_append]
  simp
theorem all_range_false {n i : Nat} {p : Nat → Bool} (hi : i < n) (h : p i = false) : (List.range n).all p = false := by
  rw [List.all_eq_false]
  exact ⟨i, List.mem_range.mpr hi, by rw [h]; decide⟩
theorem ev0_row {qs : List (Int × Int)} {i : Nat} (h : i < qs.length + 1) : (fvs (0, 1) :: qs.map fvs)[i]? = some (fvs (ev0 qs i)) := by
  unfold ev0
  cases i with
  | zero => rfl
  | succ i =>
    have hi : i < qs.length := by omega
    show (qs.map fvs)[i]? = some (fvs (qs.getD i (0, 1)))
    rw [List.getElem?_map, List.getD_eq_getElem?_getD, List.getElem?_eq_getElem hi]
    rfl
theorem ev0_ok {qs : List (Int × Int)} (h : ∀ q ∈ qs, FrOk q) (i : Nat) : FrOk (ev0 qs i) := by
  have h01 : FrOk (0, 1) := ⟨by decide, by decide, by decide, by decide, by decide⟩
  unfold ev0
  cases i with
  | zero => exact h01
  | succ i =>
    show FrOk (qs.getD i (0, 1))
    rw [List.getD_eq_getElem?_getD]
    cases hq : qs[i]? with
    | none => exact h01
    | some q => exact h q (List.mem_of_getElem? hq)
section
variable {K : PySem.W.Frag} {σ : L2.St} {H H' : Hp} {ta tb tc te tx : TE} {t u : TT} {x y z v : V} {r : R2} {D : Ends} {tu tw tz : TS}
theorem q_parEv {i j : Nat} {p : Addr} {xs : List V} (ha : Ev ta σ H x) (hb : Ev tb σ H (.ref p)) (hp : SqT K H p xs) (hl : xs.length ≤ 1000)
    (k : ∀ l T H1, H l = none → H T = none → Ex H H1 → H1 l = some (.lst (.ref T :: xs)) → H1 T = some (.tup [.int 0, .int 1]) → tz D ((σ.set i (some x)).set j (some (.ref l))) H1) :
    tSeq (tPar i j (tCons ta (tCons (tLst (tCons (tTup (tCons (tC (.int 0)) (tCons (tC (.int 1)) tNil))) (tStar K tb tNil))) tNil))) tz D σ H :=
  ha H (Ex.refl H) _ fun H1 e1 => ⟨by show 2 ≤ sizeLine; exact sz_of (by decide), fun T hT => hb _ (e1.trans (Ex.new hT)) _ fun H2 e2 => ⟨p, xs, rfl, .inl (ex_t ((e1.trans (Ex.new hT)).trans e2) hp), by
    refine ⟨sz_of (by simp; omega), fun l hl => ⟨_, _, rfl, ?_⟩⟩
    have eT := e2 T _ upd_same
    have hlT : T ≠ l := fun z => by
      rw [z, hl] at eT
      cases eT
    refine k l T _ (fresh_back ((e1.trans (Ex.new hT)).trans e2) hl) (fresh_back e1 hT) (((e1.trans (Ex.new hT)).trans e2).trans (Ex.new hl)) ?_ ?_
    · rw [upd_same, List.append_nil]
    · rw [upd_ne hlT]
      exact eT⟩⟩
theorem q_unp22 {i j k l : Nat} {a b : Addr} {x y z w : V} (h : EvU te σ H [.ref a, .ref b]) (ha : SqT K H a [x, y]) (hb : SqT K H b [z, w]) (q : ∀ H1, Ex H H1 → tz D ((((σ.set i (some x)).set j (some y)).set k (some z)).set l (some w)) H1) :
    tSeq (tAsg te (gTup K 2 (gCons (gTup K 2 (gCons (gName i) (gCons (gName j) gNil))) (gCons (gTup K 2 (gCons (gName k) (gCons (gName l) gNil))) gNil)))) tz D σ H :=
  h H (Ex.refl H) _ fun p H1 hp e h1 => ⟨p, _, rfl, st_of h1, rfl, _, _, rfl, ⟨a, _, rfl, ex_t e ha, rfl, _, _, rfl, _, _, rfl, rfl, _, _, rfl, ⟨b, _, rfl, ex_t e hb, rfl, _, _, rfl, _, _, rfl, rfl, rfl, q H1 e⟩⟩⟩
theorem ckL_rg (m : Nat) : rgV 0 (m : Int) = ckL m := by
  unfold rgV ckL
  rw [show ((m : Int) - 0).toNat = m by omega]
  refine List.map_congr_left fun i _ => ?_
  rw [Int.zero_add]
theorem el_ck {m : Nat} (ha : Ev ta σ H (.int m)) (hm : m ≤ 1000) : EvL (tLstRg (tRg1 ta)) σ H (ckL m) := fun H1 e Q q =>
  ha H1 e _ fun H2 e2 => ⟨_, rfl, RgOk.of_le (by omega) (by omega) (by omega) (by omega), fun p hp => q p _ (fresh_back e2 hp) (e2.trans (Ex.new hp)) (by rw [upd_same, ckL_rg])⟩
/-- a value that is none, or a new tuple: put to a name -/
theorem q_asgX {i : Nat} {b : Bool} {xs : List V} (h : EvX te σ H b xs) (k1 : b = true → ∀ H1, Ex H H1 → tz D (σ.set i (some .non)) H1) (k2 : b = false → ∀ p H1, H p = none → Ex H H1 → H1 p = some (.tup xs) → tz D (σ.set i (some (.ref p))) H1) : tSeq (tAsg te (gName i)) tz D σ H :=
  h H (Ex.refl H) _ ⟨fun hb H1 e => k1 hb H1 e, fun hb p H1 hp e h => k2 hb p H1 hp e h⟩
theorem ex_callM {sp : Sp} {E : XK} {xs ys : List V} {b : Bool} (ha : Ev ta σ H x) (hb : EvL tb σ H xs) (hc : Ev tc σ H z) (hs : ∀ l H1, Ex H H1 → H1 l = some (.lst xs) → SpX sp [x, .ref l, z] H1 b ys) : EvX (tCall sp [] E (tCons ta (tCons tb (tCons tc tNil)))) σ H b ys := fun H1 e Q q =>
  ha H1 e _ fun H2 e2 => hb H2 (e.trans e2) _ fun l H3 hl e3 h3 => hc H3 ((e.trans e2).trans e3) _ fun H4 e4 => hs l H4 (((e.trans e2).trans e3).trans e4) (e4 l _ h3) H4 (Ex.refl H4) Q (q.go ((e2.trans e3).trans e4)) _
theorem eu_callM {sp : Sp} {E : XK} {xs ys : List V} (ha : Ev ta σ H x) (hb : EvL tb σ H xs) (hc : Ev tc σ H z) (hs : ∀ l H1, Ex H H1 → H1 l = some (.lst xs) → ∀ Q : VK, RetU ys H1 Q → sp [x, .ref l, z] H1 Q E) : EvU (tCall sp [] E (tCons ta (tCons tb (tCons tc tNil)))) σ H ys := fun H1 e Q q =>
  ha H1 e _ fun H2 e2 => hb H2 (e.trans e2) _ fun l H3 hl e3 h3 => hc H3 ((e.trans e2).trans e3) _ fun H4 e4 => hs l H4 (((e.trans e2).trans e3).trans e4) (e4 l _ h3) _ fun p H5 hp e5 h5 => q p H5 (fresh_back ((e2.trans e3).trans e4) hp) (((e2.trans e3).trans e4).trans e5) h5
end
section
variable {P : Program} {w : World} {K : PySem.W.Frag} {mg : Str → Option Value} {base : Heap} {aU aC : Addr}
/-! ### has_values -/
def spHas (K : PySem.W.Frag) : Sp := fun vs H Q _ => ∃ (a v : Addr) (n : Nat) (S : Sq) (qs : List (Int × Int)), vs = [.ref a, .ref v] ∧ SqT K H a (zv n S) ∧ RwT K H v (qs.map fvs) ∧ qs.length + 1 = n ∧ n ≤ 4 ∧ (∀ q ∈ qs, FrOk q) ∧ Bd 1000 n S ∧ RetV (.bl (holdsB n S (ev0 qs))) H Q
theorem sv_has {a v : Addr} {n : Nat} {S : Sq} {qs : List (Int × Int)} {H : Hp} (h1 : SqT K H a (zv n S)) (h2 : RwT K H v (qs.map fvs)) (h3 : qs.length + 1 = n) (h4 : n ≤ 4) (h5 : ∀ q ∈ qs, FrOk q) (h6 : Bd 1000 n S) : SpV (spHas K) [.ref a, .ref v] H (.bl (holdsB n S (ev0 qs))) := fun H1 e Q q E => ⟨a, v, n, S, qs, rfl, ex_t e h1, h2.ex e, h3, h4, h5, h6, fun H2 e => q H2 e⟩
theorem c_has_values (T : Tx K mg aU aC) (D : Df K mg "has_values" s_has_values ["zone", "values"]) (c_side_of : Cl P w K mg base 1 "side_of" (spSide K)) : Cl P w K mg base 2 "has_values" (spHas K) := by
  refine D.cl sc_has_values (fun vs H Q E h => by obtain ⟨_, _, _, _, _, rfl, _⟩ := h; rfl) (fun f cdv A outer s H vs Q E hr h => ?_)
  obtain ⟨a, v, n, S, qs, rfl, ha, hv, hqn, h4, hqs, hbd, k⟩ := h
  obtain ⟨as, hv1, hv2⟩ := hv
  refine ⟨_, (pss_cons (ps_par (i := 2) (j := 3) rfl sc_has_values.nd rfl rfl (by decide) rfl rfl (pa_cons (pe_cl c_side_of hr (by decide) (by rfl) (pa_cons (pv 0) pa_nil)) (pa_cons (pe_lst (pa_cons (pe_tup (pa_cons pe_int (pa_cons pe_int pa_nil))) (pa_star (pv 1) pa_nil))) pa_nil)) rfl)
      (pss_cons (ps_for PassesOwn.never rfl (pi_range1 (by rfl) T.n_range (pa_cons (pv 2) pa_nil)) (pg_name (i := 4) sc_has_values.nd rfl (.inl rfl)) (pss_one (ps_for PassesOwn.never rfl (pi_range1 (by rfl) T.n_range (pa_cons (pv 2) pa_nil)) (pg_name (i := 5) sc_has_values.nd rfl (.inl rfl)) (pss_cons (ps_set (i := 6) sc_has_values.nd rfl (.inl rfl) (pe_ix (ixT (K := K)) (pv 0) (pe_op op_add (pe_op op_mul (pv 4) (pv 2)) (pv 5)) (fun _ _ => rfl)))
      (pss_one (ps_if (pt_cmpR op_ne (pv 6) (pe_gint T.g_FAR) (nomark _)) (pss_cons (ps_asg (pe_tup (pa_cons (pe_ix (ixL (K := K)) (pv 3) (pv 4) (fun _ _ => rfl)) (pa_cons (pe_ix (ixL (K := K)) (pv 3) (pv 5) (fun _ _ => rfl)) pa_nil))) (tgK (K := K) (n := 2) rfl (pgs_cons (tgK (K := K) (n := 2) rfl (pgs_cons (pg_name (i := 7) sc_has_values.nd rfl (.inl rfl)) (pgs_cons (pg_name (i := 8) sc_has_values.nd rfl (.inl rfl)) pgs_nil))) (pgs_cons (tgK (K := K) (n := 2) rfl (pgs_cons (pg_name (i := 9) sc_has_values.nd rfl (.inl rfl)) (pgs_cons (pg_name (i := 10) sc_has_values.nd rfl (.inl rfl)) pgs_nil))) pgs_nil))))
      (pss_cons (ps_par (i := 11) (j := 12) rfl sc_has_values.nd rfl rfl (by decide) rfl rfl (pa_cons (pe_op op_sub (pe_op op_mul (pv 7) (pv 10)) (pe_op op_mul (pv 9) (pv 8))) (pa_cons (pe_op op_mul (pe_op op_mul (pe_op op_fdiv (pv 6) pe_int) (pv 8)) (pv 10)) pa_nil)) rfl)
      (pss_one (ps_if (PW.pt (pw_or (pt_cmpR op_gt (pv 11) (pv 12) (nomark _)) (pw_or1 (PW.pt (pw_and (pt_cmpR op_eq (pv 11) (pv 12) (nomark _)) (pw_and1 (pt_cmpR op_eq (pe_op op_mod (pv 6) pe_int) pe_int (nomark _)))))))) (pss_one (ps_ret pe_bl)) pss_nil)))) pss_nil))))))
      (pss_one (ps_ret pe_bl)))), ?_⟩
  have hasl : as.length + 1 = n := by
    rw [hv2.1, List.length_map]
    exact hqn
  refine q_parEv (ev_call (ea_cons (ev_var rfl) ea_nil) (sv_side ha (zv_len n S) (by omega) (by omega))) (ev_var rfl) hv1 (by rw [List.length_map]; omega) fun l Tz H1 hl hT e1 h1l h1T => ?_
  have hrows : RwAt K H1 (Tz :: as) (fvs (0, 1) :: qs.map fvs) := (hv2.ex e1).cons (st_of h1T)
  have hsq : SqL K H1 l ((Tz :: as).map V.ref) := sq_of h1l
  have ha1 := ex_t e1 ha
  have hn : (0 : Int) ≤ (n : Int) ∧ (n : Int) ≤ 100000 := ⟨by omega, by omega⟩
  have mul : ∀ i : Nat, i < n → CMul (i : Int) (n : Int) := fun i hi => .inl ⟨by omega, by omega⟩
  refine q_forR1 (ea_cons (ev_var rfl) ea_nil) hn (fun i σ H' => ∃ y4 y5 y6 y7 y8 y9 y10 y11 y12, σ = [some (.ref a), some (.ref v), some (.int n), some (.ref l), y4, y5, y6, y7, y8, y9, y10, y11, y12] ∧ Ex H1 H' ∧ ((List.range i).all fun i => (List.range n).all fun j => okB (S i j) (ev0 qs i) (ev0 qs j)) = true) (fun H2 e2 => ⟨none, none, none, none, none, none, none, none, none, rfl, e2, rfl⟩) (fun i σ H2 hi hP => ?_) (fun σ H2 hP => ?_)
  · obtain ⟨y4, y5, y6, y7, y8, y9, y10, y11, y12, rfl, e2, hall⟩ := hP
    have hi : i < n := by omega
    refine s_forR1 (ea_cons (ev_var rfl) ea_nil) hn (fun j σ H' => ∃ y5 y6 y7 y8 y9 y10 y11 y12, σ = [some (.ref a), some (.ref v), some (.int n), some (.ref l), some (.int i), y5, y6, y7, y8, y9, y10, y11, y12] ∧ Ex H1 H' ∧ ((List.range j).all fun j => okB (S i j) (ev0 qs i) (ev0 qs j)) = true) (fun H3 e3 => ⟨y5, y6, y7, y8, y9, y10, y11, y12, rfl, e2.trans e3, rfl⟩) (fun j σ H3 hj hP => ?_) (fun σ H3 hP => ?_)
    · obtain ⟨y5, y6, y7, y8, y9, y10, y11, y12, rfl, e3, hal2⟩ := hP
      have hj : j < n := by omega
      refine q_asg (v := .int (enc (S i j))) (ev_ixVT (ev_var rfl) (ev_op (ev_op (ev_var rfl) (ev_var rfl) (rv_I (mul i hi))) (ev_var rfl) rv_I0) (ex_t e3 ha1) (zv_at hi hj rfl)) fun H4 e4 => ?_
      have e14 := e3.trans e4
      refine s_when (b := !decide (enc (S i j) = 1000000)) (et_is (et_test (ev_op (ev_var rfl) ev_c (rv_ne rfl))) (by rw [int_eq])) (fun hb H5 e5 => ?_) (fun hb H5 e5 => ?_)
      · have e15 := e14.trans e5
        obtain ⟨ri, hri, hri2⟩ := hrows.get (ev0_row (qs := qs) (i := i) (by omega))
        obtain ⟨rj, hrj, hrj2⟩ := hrows.get (ev0_row (qs := qs) (i := j) (by omega))
        have hli : ((Tz :: as).map V.ref)[i]? = some (.ref ri) := by rw [List.getElem?_map, hri]; rfl
        have hlj : ((Tz :: as).map V.ref)[j]? = some (.ref rj) := by rw [List.getElem?_map, hrj]; rfl
        refine q_unp22 (eu_tup (ea_cons (ev_op (ev_var rfl) (ev_var rfl) (rv_ixL (ex_l e15 hsq) (at_of (j := i) rfl hli))) (ea_cons (ev_op (ev_var rfl) (ev_var rfl) (rv_ixL (ex_l e15 hsq) (at_of (j := j) rfl hlj))) ea_nil)) (by show 2 ≤ 100000; decide)) (ex_t e15 hri2) (ex_t e15 hrj2) fun H6 e6 => ?_
        have oi := ev0_ok hqs i
        have oj := ev0_ok hqs j
        obtain ⟨o1, o2, o3, o4, _⟩ := oi
        obtain ⟨o5, o6, o7, o8, _⟩ := oj
        cases hS : S i j with
        | none =>
          rw [hS] at hb
          cases hb
        | some b =>
          have hB := hbd i j hi hj b hS
          refine q_par (x := .int ((ev0 qs i).1 * (ev0 qs j).2 - (ev0 qs j).1 * (ev0 qs i).2)) (y := .int (b.1 * (ev0 qs i).2 * (ev0 qs j).2)) (ev_op (ev_op (ev_var rfl) (ev_var rfl) (rv_I (.inl ⟨by omega, by omega⟩))) (ev_op (ev_var rfl) (ev_var rfl) (rv_I (.inl ⟨by omega, by omega⟩))) rv_I0)
            (ev_is (ev_op (ev_op (ev_op (ev_var rfl) ev_c (rv_I ⟨by decide, by decide⟩)) (ev_var rfl) (rv_I (.inr ⟨by omega, by omega⟩))) (ev_var rfl) (rv_I (.inr ⟨by omega, by omega⟩))) ?_) fun H7 e7 => ?_
          · have : enc (some b) / 2 = b.1 := by
              obtain ⟨k, p⟩ := b
              cases p <;> simp [enc] <;> omega
            rw [this]
          · have hm2 : decide (enc (some b) % 2 = 0) = !b.2 := by
              obtain ⟨k, p⟩ := b
              cases p <;> simp [enc] <;> omega
            refine s_when (b := decide ((ev0 qs i).1 * (ev0 qs j).2 - (ev0 qs j).1 * (ev0 qs i).2 > b.1 * (ev0 qs i).2 * (ev0 qs j).2) || (decide ((ev0 qs i).1 * (ev0 qs j).2 - (ev0 qs j).1 * (ev0 qs i).2 = b.1 * (ev0 qs i).2 * (ev0 qs j).2) && !b.2)) (et_or (et_test (ev_op (ev_var rfl) (ev_var rfl) rv_I0)) fun _ => et_and (et_is (et_test (ev_op (ev_var rfl) (ev_var rfl) (rv_eq rfl))) (by rw [int_eq])) fun _ => et_is (et_test (ev_op (ev_op (ev_var rfl) ev_c (rv_I (by decide))) ev_c (rv_eq rfl))) (by rw [int_eq]; exact hm2)) (fun hb2 H8 e8 => ?_) (fun hb2 H8 e8 => ?_)
            · refine s_ret ev_c fun H9 e9 => ?_
              have e := k H9 (e1.trans (((e15.trans e6).trans e7).trans (e8.trans e9)))
              have f1 : okB (S i j) (ev0 qs i) (ev0 qs j) = false := by
                rw [hS]
                show (!(_ || _)) = false
                rw [hb2]
                rfl
              have f2 : holdsB n S (ev0 qs) = false := all_range_false hi (all_range_false hj f1)
              rw [f2] at e
              exact e
            · refine ⟨_, _, _, _, _, _, _, _, rfl, ((e15.trans e6).trans e7).trans e8, ?_⟩
              rw [all_range_succ, hal2, Bool.true_and, hS]
              show (!(_ || _)) = true
              rw [hb2]
              rfl
      · refine ⟨_, _, _, _, _, _, _, _, rfl, e14.trans e5, ?_⟩
        rw [all_range_succ, hal2, Bool.true_and]
        have hb' : enc (S i j) = 1000000 := by simpa using hb
        cases hS : S i j with
        | none => rfl
        | some b =>
          rw [hS] at hb'
          have hB := hbd i j hi hj b hS
          obtain ⟨k, p⟩ := b
          cases p <;> simp [enc] at hb' hB <;> omega
    · obtain ⟨y5, y6, y7, y8, y9, y10, y11, y12, rfl, e3, hal2⟩ := hP
      refine ⟨_, _, _, _, _, _, _, _, _, rfl, e3, ?_⟩
      rw [all_range_succ, hall, Bool.true_and]
      rw [show ((n : Int)).toNat = n by omega] at hal2
      exact hal2
  · obtain ⟨y4, y5, y6, y7, y8, y9, y10, y11, y12, rfl, e2, hall⟩ := hP
    rw [show ((n : Int)).toNat = n by omega] at hall
    refine s_ret ev_c fun H3 e3 => ?_
    have e := k H3 (e1.trans (e2.trans e3))
    have f2 : holdsB n S (ev0 qs) = true := hall
    rw [f2] at e
    exact e
/-! ### first_zone, later_zone -/
def spFirst : Sp := fun vs H Q _ => ∃ m : Nat, vs = [.int m] ∧ 1 ≤ m ∧ m ≤ 3 ∧ RetU (zv (m + 1) fun _ _ => Zm.nil) H Q
theorem c_first_zone (T : Tx K mg aU aC) (D : Df K mg "first_zone" s_first_zone ["many"]) (c_is_between : Cl P w K mg base 2 "is_between" spIsBetween) (c_begin_zone : Cl P w K mg base 1 "begin_zone" spBegin) : Cl P w K mg base 3 "first_zone" spFirst := by
  refine D.cl sc_first_zone (fun vs H Q E h => by obtain ⟨_, rfl, _⟩ := h; rfl) (fun f cdv A outer s H vs Q E hr h => ?_)
  obtain ⟨m, rfl, h1, h3, k⟩ := h
  refine ⟨_, (pss_cons (ps_if (pt_not (pt_val (pe_cl c_is_between hr (by decide) (by rfl) (pa_cons (pv 0) (pa_cons pe_int (pa_cons (pe_gint T.g_MOST_CLOCKS) pa_nil)))))) (pss_one ps_never) pss_nil)
      (pss_one (ps_ret (pe_cl c_begin_zone hr (by decide) (by rfl) (pa_cons (pv 0) pa_nil))))), ?_⟩
  refine q_when (b := false) (et_is (et_not (et_test (ev_call (ea_cons (ev_var rfl) (ea_cons ev_c (ea_cons ev_c ea_nil))) sv_is_between))) (by rw [decide_eq_true (show (1 : Int) ≤ (m : Int) by omega), decide_eq_true (show (m : Int) ≤ 3 by omega)]; rfl)) (fun hb => by cases hb) fun _ H1 e1 => ?_
  exact s_retC (ea_cons (ev_var rfl) ea_nil) fun H2 e2 => ⟨m, rfl, h1, h3, fun p H3 hp e3 h3 => k p H3 (fresh_back (e1.trans e2) hp) ((e1.trans e2).trans e3) h3⟩
def spLater (K : PySem.W.Frag) : Sp := fun vs H Q _ => ∃ (a : Addr) (n : Nat) (S : Sq), vs = [.ref a] ∧ SqT K H a (zv n S) ∧ 2 ≤ n ∧ n ≤ 4 ∧ Bd 1000 n S ∧ zoneB n S = true ∧ RetU (zv n (Zm.lat S)) H Q
theorem c_later_zone (T : Tx K mg aU aC) (D : Df K mg "later_zone" s_later_zone ["zone"]) (c_check_zone : Cl P w K mg base 5 "check_zone" (spCheck K)) (c_passed : Cl P w K mg base 2 "passed" (spPassed K)) : Cl P w K mg base 6 "later_zone" (spLater K) := by
  refine D.cl sc_later_zone (fun vs H Q E h => by obtain ⟨_, _, _, rfl, _⟩ := h; rfl) (fun f cdv A outer s H vs Q E hr h => ?_)
  obtain ⟨a, n, S, rfl, ha, h1, h4, hbd, hz, k⟩ := h
  refine ⟨_, (pss_cons (ps_expr (pe_cl c_check_zone hr (by decide) (by rfl) (pa_cons (pv 0) pa_nil)))
      (pss_one (ps_ret (pe_cl c_passed hr (by decide) (by rfl) (pa_cons (pv 0) pa_nil))))), ?_⟩
  refine q_drop (ev_call (ea_cons (ev_var rfl) ea_nil) (sv_check ha h1 h4 hbd hz)) fun H1 e1 => ?_
  exact s_retC (ea_cons (ev_var rfl) ea_nil) fun H2 e2 => ⟨a, n, S, rfl, ex_t (e1.trans e2) ha, by omega, h4, fun p H3 hp e3 h3 => k p H3 (fresh_back (e1.trans e2) hp) ((e1.trans e2).trans e3) h3⟩
/-! ### are_bounds, zone_with -/
def spAreBounds (K : PySem.W.Frag) : Sp := fun vs H Q _ => ∃ (m : Nat) (g : Addr) (gs : List Zm.Gi), vs = [.int m, .ref g] ∧ RwT K H g (gs.map gvs) ∧ (∀ g ∈ gs, Zm.GiOk (m + 1) g) ∧ gs.length ≤ 1000 ∧ RetV (.bl true) H Q
theorem sv_are_bounds {m : Nat} {g : Addr} {gs : List Zm.Gi} {H : Hp} (h1 : RwT K H g (gs.map gvs)) (h2 : ∀ g ∈ gs, Zm.GiOk (m + 1) g) (h3 : gs.length ≤ 1000) : SpV (spAreBounds K) [.int m, .ref g] H (.bl true) := fun H1 e Q q E => ⟨m, g, gs, rfl, h1.ex e, h2, h3, fun H2 e => q H2 e⟩
theorem rw_mem {H : Hp} {as : List Addr} {gs : List Zm.Gi} (h : RwAt K H as (gs.map gvs)) {x : V} (hx : x ∈ as.map V.ref) : ∃ a g, x = .ref a ∧ g ∈ gs ∧ SqT K H a (gvs g) := by
  obtain ⟨a, ha, rfl⟩ := List.mem_map.mp hx
  obtain ⟨i, hi⟩ := List.mem_iff_getElem?.mp ha
  have hl : i < (gs.map gvs).length := by
    rw [← h.1]
    exact (List.getElem?_eq_some_iff.mp hi).1
  have hg : i < gs.length := by simpa using hl
  exact ⟨a, gs[i], rfl, List.getElem_mem hg, h.2 i a _ hi (by rw [List.getElem?_map, List.getElem?_eq_getElem hg]; rfl)⟩
theorem c_are_bounds (T : Tx K mg aU aC) (D : Df K mg "are_bounds" s_are_bounds ["many", "value"]) (c_is_between : Cl P w K mg base 2 "is_between" spIsBetween) : Cl P w K mg base 3 "are_bounds" (spAreBounds K) := by
  refine D.cl sc_are_bounds (fun vs H Q E h => by obtain ⟨_, _, _, rfl, _⟩ := h; rfl) (fun f cdv A outer s H vs Q E hr h => ?_)
  obtain ⟨m, g, gs, rfl, hg, hok, hgl, k⟩ := h
  obtain ⟨as, hg1, hg2⟩ := hg
  refine ⟨_, (pss_cons (ps_if (PW.pt (pw_or (pt_not (pt_val (pe_callB (isiK (K := K)) (by rfl) T.n_isinstance (by decide +kernel) (pa_cons (pv 1) (pa_cons (pe_gty (n := "tuple") T.n_tuple (by decide +kernel)) pa_nil))))) (pw_or1 (pt_not (pt_val (pe_callB (allK (K := K) rfl) (by rfl) T.n_all (by decide +kernel) (pa_cons (pe_lc (own := [("row", 2)]) rfl sc_are_bounds.nd (pi_tup (pv 1)) (blkOk_by (N := N_are_bounds) (sc := defScope s_are_bounds) (by decide +kernel)) (fun _ _ _ _ _ => (pg_name (i := 2) sc_are_bounds.nd rfl (.inl rfl))) (fun _ _ _ _ _ => pts_nil) (fun _ _ _ _ _ => (pe_and (pe_callB (isiK (K := K)) (by rfl) T.n_isinstance (by decide +kernel) (pa_cons (pv 2) (pa_cons (pe_gty (n := "tuple") T.n_tuple (by decide +kernel)) pa_nil))) (pe_one (pe_cmpR op_eq (pe_callB (lenK (K := K)) (by rfl) T.n_len PySem.boot_len (pa_cons (pv 2) pa_nil)) pe_int (nomark _)))))) pa_nil))))))) (pss_one (ps_ret pe_bl)) pss_nil)
      (pss_cons (ps_if (pt_not (pt_val (pe_callB (allK (K := K) rfl) (by rfl) T.n_all (by decide +kernel) (pa_cons (pe_lc (own := [("row", 2)]) rfl sc_are_bounds.nd (pi_tup (pv 1)) (blkOk_by (N := N_are_bounds) (sc := defScope s_are_bounds) (by decide +kernel)) (fun _ _ _ _ _ => (pg_name (i := 2) sc_are_bounds.nd rfl (.inl rfl))) (fun _ _ _ _ _ => pts_nil) (fun _ _ _ _ _ => (pe_and (pe_callB (isiK (K := K)) (by rfl) T.n_isinstance (by decide +kernel) (pa_cons (pe_ix (ixT (K := K)) (pv 2) pe_int (fun _ _ => rfl)) (pa_cons (pe_gty (n := "str") T.n_str (by decide +kernel)) pa_nil))) (pe_one (pe_cmpR (inK (K := K)) (pe_ix (ixT (K := K)) (pv 2) pe_int (fun _ _ => rfl)) (pe_gref T.g_COMPARES) (by with_unfolding_all rfl)))))) pa_nil)))) (pss_one (ps_ret pe_bl)) pss_nil)
      (pss_one (ps_ret (pe_callB (allK (K := K) rfl) (by rfl) T.n_all (by decide +kernel) (pa_cons (pe_lc (own := [("row", 2)]) rfl sc_are_bounds.nd (pi_tup (pv 1)) (blkOk_by (N := N_are_bounds) (sc := defScope s_are_bounds) (by decide +kernel)) (fun _ _ _ _ _ => (pg_name (i := 2) sc_are_bounds.nd rfl (.inl rfl))) (fun _ _ _ _ _ => pts_nil) (fun _ _ _ _ _ => (pe_and (pe_cl c_is_between hr (by decide) (by rfl) (pa_cons (pe_ix (ixT (K := K)) (pv 2) pe_int (fun _ _ => rfl)) (pa_cons pe_int (pa_cons (pe_op op_sub (pv 0) pe_int) pa_nil)))) (pe_one (pe_cl c_is_between hr (by decide) (by rfl) (pa_cons (pe_ix (ixT (K := K)) (pv 2) pe_int (fun _ _ => rfl)) (pa_cons pe_int (pa_cons (pe_gint T.g_MOST_MOMENT) pa_nil)))))))) pa_nil)))))), ?_⟩
  have hz : (as.map V.ref).length ≤ 40000 := by
    rw [List.length_map, hg2.1, List.length_map]
    omega
  refine q_when (b := false) (et_or (a := false) (et_is (et_not (a := true) (et_test (ev_isiT (ev_var rfl) hg1 (by decide +kernel)))) rfl) fun _ => et_is (et_not (et_test (ev_allT (fun _ => true) (ev_var rfl) hg1 hz (fun _ => rfl) fun x H2 e2 hx => ?_))) (by rw [all_true]; rfl)) (fun hb => by cases hb) fun _ H1 e1 => ?_
  · obtain ⟨b, z, rfl, hz, hb⟩ := rw_mem (hg2.ex e2) hx
    exact ev_is (ev_andV (ev_isiT (r := true) (ev_var rfl) hb (by decide +kernel)) fun _ => ev_op (ev_lenT (ev_var rfl) hb) ev_c (rv_eq rfl)) (by rfl)
  refine q_when (b := false) (et_is (et_not (et_test (ev_allT (fun _ => true) (ev_var rfl) (ex_t e1 hg1) hz (fun _ => rfl) fun x H2 e2 hx => ?_))) (by rw [all_true]; rfl)) (fun hb => by cases hb) fun _ H2 e2 => ?_
  · obtain ⟨b, z, rfl, hz, hb⟩ := rw_mem (hg2.ex (e1.trans e2)) hx
    exact ev_is (ev_andV (ev_isiS (r := true) (ev_ixVT (ev_var rfl) ev_c hb (by rfl)) (by decide +kernel)) fun _ => ev_op (ev_ixVT (ev_var rfl) ev_c hb (by rfl)) ev_c (rv_isT (T.k_COMPARES _) rfl rfl)) (by rw [opS_in]; rfl)
  refine s_ret (ev_is (ev_allT (fun _ => true) (ev_var rfl) (ex_t (e1.trans e2) hg1) hz (fun _ => rfl) fun x H3 e3 hx => ?_) (by rw [all_true])) fun H3 e3 => k H3 ((e1.trans e2).trans e3)
  obtain ⟨b, z, rfl, hz, hb⟩ := rw_mem (hg2.ex ((e1.trans e2).trans e3)) hx
  obtain ⟨o1, o2⟩ := hok z hz
  refine ev_is (ev_andV (ev_call (ea_cons (ev_ixVT (ev_var rfl) ev_c hb (by rfl)) (ea_cons ev_c (ea_cons (ev_op (ev_var rfl) ev_c rv_I0) ea_nil))) sv_is_between) fun _ => ev_call (ea_cons (ev_ixVT (ev_var rfl) ev_c hb (by rfl)) (ea_cons ev_c (ea_cons ev_c ea_nil))) sv_is_between) ?_
  rw [decide_eq_true (show (0 : Int) ≤ (z.c : Int) by omega), decide_eq_true (show (z.c : Int) ≤ (m : Int) - 1 by omega), decide_eq_true (show (0 : Int) ≤ (z.k : Int) by omega), decide_eq_true (show (z.k : Int) ≤ 12 by omega)]
  rfl
def spWith (K : PySem.W.Frag) : Sp := fun vs H Q _ => ∃ (a g : Addr) (n : Nat) (S : Sq) (gs : List Zm.Gi), vs = [.ref a, .ref g] ∧ SqT K H a (zv n S) ∧ RwT K H g (gs.map gvs) ∧ (∀ g ∈ gs, Zm.GiOk n g) ∧ 2 ≤ n ∧ n ≤ 4 ∧ gs.length ≤ 1000 ∧ Bd 900 n S ∧ zoneB n S = true ∧
  (neg n (fw n (gall S (gs.map Zm.Gi.edge))) = false → Bd 1000 n (fw n (gall S (gs.map Zm.Gi.edge)))) ∧
  RetX (neg n (fw n (gall S (gs.map Zm.Gi.edge)))) (zv n (fw n (gall S (gs.map Zm.Gi.edge)))) H Q
theorem Bd.mono {c d : Int} {n : Nat} {S : Sq} (h : Bd c n S) (l : c ≤ d) : Bd d n S := fun i j hi hj x hx => by
  have := h i j hi hj x hx
  omega
theorem c_zone_with (T : Tx K mg aU aC) (D : Df K mg "zone_with" s_zone_with ["zone", "guard"]) (c_check_zone : Cl P w K mg base 5 "check_zone" (spCheck K)) (c_side_of : Cl P w K mg base 1 "side_of" (spSide K)) (c_are_bounds : Cl P w K mg base 3 "are_bounds" (spAreBounds K)) (c_guarded : Cl P w K mg base 3 "guarded" (spGuarded K)) : Cl P w K mg base 6 "zone_with" (spWith K) := by
  refine D.cl sc_zone_with (fun vs H Q E h => by obtain ⟨_, _, _, _, _, rfl, _⟩ := h; rfl) (fun f cdv A outer s H vs Q E hr h => ?_)
  obtain ⟨a, g, n, S, gs, rfl, ha, hg, hok, h2, h4, hgl, hbd, hz, hbR, k⟩ := h
  refine ⟨_, (pss_cons (ps_expr (pe_cl c_check_zone hr (by decide) (by rfl) (pa_cons (pv 0) pa_nil)))
      (pss_cons (ps_set (i := 2) sc_zone_with.nd rfl (.inl rfl) (pe_op op_sub (pe_cl c_side_of hr (by decide) (by rfl) (pa_cons (pv 0) pa_nil)) pe_int))
      (pss_cons (ps_if (pt_not (pt_val (pe_cl c_are_bounds hr (by decide) (by rfl) (pa_cons (pv 2) (pa_cons (pv 1) pa_nil))))) (pss_one ps_never) pss_nil)
      (pss_cons (ps_set (i := 3) sc_zone_with.nd rfl (.inl rfl) (pe_cl c_guarded hr (by decide) (by rfl) (pa_cons (pv 0) (pa_cons (pe_listRg rfl (by rfl) T.n_list (prg_1 (by rfl) T.n_range (pv 2))) (pa_cons (pv 1) pa_nil)))))
      (pss_cons (ps_if (PW.pt (pw_and (pt_cmpR op_notN (pv 3) pe_non (nomark _)) (pw_and1 (pt_val (pe_callB (anyK (K := K) rfl) (by rfl) T.n_any (by decide +kernel) (pa_cons (pe_lc (own := [("bound", 4)]) rfl sc_zone_with.nd (pi_tup (pv 3)) (blkOk_by (N := N_zone_with) (sc := defScope s_zone_with) (by decide +kernel)) (fun _ _ _ _ _ => (pg_name (i := 4) sc_zone_with.nd rfl (.inl rfl))) (fun _ _ _ _ _ => pts_nil) (fun _ _ _ _ _ => (pe_and (pe_cmpR op_ne (pv 4) (pe_gint T.g_FAR) (nomark _)) (pe_one (pe_cmpR op_gt (pe_callB call_abs (by rfl) T.n_abs (by decide +kernel) (pa_cons (pv 4) pa_nil)) (pe_gint T.g_MOST_BOUND) (nomark _)))))) pa_nil)))))) (pss_one ps_never) pss_nil)
      (pss_one (ps_ret (pv 3)))))))), ?_⟩
  refine q_drop (ev_call (ea_cons (ev_var rfl) ea_nil) (sv_check ha h2 h4 (hbd.mono (by decide)) hz)) fun H1 e1 => ?_
  refine q_asg (v := .int ((n - 1 : Nat) : Int)) (ev_is (ev_op (ev_call (ea_cons (ev_var rfl) ea_nil) (sv_side (ex_t e1 ha) (zv_len n S) (by omega) (by omega))) ev_c rv_I0) (by congr 1; omega)) fun H2 e2 => ?_
  refine q_when (b := false) (et_is (et_not (et_test (ev_call (ea_cons (ev_var rfl) (ea_cons (ev_var rfl) ea_nil)) (sv_are_bounds (m := n - 1) (hg.ex (e1.trans e2)) (fun g hg => by rw [show n - 1 + 1 = n by omega]; exact hok g hg) hgl)))) rfl) (fun hb => by cases hb) fun _ H3 e3 => ?_
  have e13 := (e1.trans e2).trans e3
  have hX := fun (l : Addr) (H4 : Hp) (e4 : Ex H3 H4) (h4l : H4 l = some (.lst (ckL (n - 1)))) => sx_guarded (K := K) (ex_t (e13.trans e4) ha) (sq_of h4l) (hg.ex (e13.trans e4)) hok (by omega) h4 hgl hbd.up
  refine q_asgX (ex_callM (ev_var rfl) (el_ck (m := n - 1) (ev_var rfl) (by omega)) (ev_var rfl) hX) (fun hn H4 e4 => ?_) fun hn p H4 hp e4 h4p => ?_
  · refine q_when (b := false) (et_and (a := false) (b := false) (et_test (ev_op (ev_var rfl) ev_c rv_notN)) (fun hb => by cases hb)) (fun hb => by cases hb) fun _ H5 e5 => s_ret (ev_var rfl) fun H6 e6 => k.1 hn H6 ((e13.trans e4).trans (e5.trans e6))
  · have hR := hbR hn
    have hz2 : (zv n (fw n (gall S (gs.map Zm.Gi.edge)))).length ≤ 40000 := by
      rw [zv_len]
      have : n * n ≤ 4 * 4 := Nat.mul_le_mul h4 h4
      omega
    have hany : ((zv n (fw n (gall S (gs.map Zm.Gi.edge)))).any fun _ => false) = false := by simp
    refine q_when (b := false) (et_and (a := true) (et_is (et_test (ev_op (ev_var rfl) ev_c rv_notN)) rfl) fun _ => et_is (et_test (ev_anyT (fun _ => false) (ev_var rfl) (st_of h4p) hz2 (fun _ => rfl) fun x H5 e5 hx => ?_)) hany) (fun hb => by cases hb) fun _ H5 e5 => s_ret (ev_var rfl) fun H6 e6 => k.2 hn p H6 (fresh_back e13 hp) ((e13.trans e4).trans (e5.trans e6)) (e6 p _ (e5 p _ h4p))
    obtain ⟨i, j, hi, hj, rfl⟩ := zv_mem hx
    have hB := enc_bd (hR i j hi hj)
    refine ev_is (ev_andV (ev_op (ev_var rfl) ev_c (rv_ne rfl)) fun _ => ev_op (ev_abs (ev_var rfl)) ev_c rv_I0) ?_
    rw [int_eq]
    rcases hB with e | e
    · rw [e]
      rfl
    · have q1 : ¬ ((if enc (fw n (gall S (gs.map Zm.Gi.edge)) i j) < 0 then -enc (fw n (gall S (gs.map Zm.Gi.edge)) i j) else enc (fw n (gall S (gs.map Zm.Gi.edge)) i j)) > 200000) := by split <;> omega
      rw [decide_eq_false q1, Bool.and_false]
/-! ### zone_set -/
def spZoneSet (K : PySem.W.Frag) : Sp := fun vs H Q _ => ∃ (a p : Addr) (n : Nat) (S : Sq) (ps : List Nat), vs = [.ref a, .ref p] ∧ SqT K H a (zv n S) ∧ SqT K H p (ps.map fun i : Nat => V.int ((i : Nat) : Int)) ∧ (∀ i ∈ ps, i + 1 < n) ∧ 2 ≤ n ∧ n ≤ 4 ∧ ps.length ≤ 1000 ∧ Bd 1000 n S ∧ zoneB n S = true ∧ RetU (zv n (Zm.sbAll S ps)) H Q
theorem c_zone_set (T : Tx K mg aU aC) (D : Df K mg "zone_set" s_zone_set ["zone", "places"]) (c_check_zone : Cl P w K mg base 5 "check_zone" (spCheck K)) (c_side_of : Cl P w K mg base 1 "side_of" (spSide K)) (c_is_between : Cl P w K mg base 2 "is_between" spIsBetween) (c_set_back : Cl P w K mg base 2 "set_back" (spSetBack K)) : Cl P w K mg base 6 "zone_set" (spZoneSet K) := by
  refine D.cl sc_zone_set (fun vs H Q E h => by obtain ⟨_, _, _, _, _, rfl, _⟩ := h; rfl) (fun f cdv A outer s H vs Q E hr h => ?_)
  obtain ⟨a, p, n, S, ps, rfl, ha, hp, hps, h2, h4, hpl, hbd, hz, k⟩ := h
  refine ⟨_, (pss_cons (ps_expr (pe_cl c_check_zone hr (by decide) (by rfl) (pa_cons (pv 0) pa_nil)))
      (pss_cons (ps_set (i := 2) sc_zone_set.nd rfl (.inr rfl) (pe_op op_sub (pe_cl c_side_of hr (by decide) (by rfl) (pa_cons (pv 0) pa_nil)) pe_int))
      (pss_cons (ps_if (PW.pt (pw_or (pt_not (pt_val (pe_callB (isiK (K := K)) (by rfl) T.n_isinstance (by decide +kernel) (pa_cons (pv 1) (pa_cons (pe_gty (n := "tuple") T.n_tuple (by decide +kernel)) pa_nil))))) (pw_or1 (pt_not (pt_val (pe_callB (allK (K := K) rfl) (by rfl) T.n_all (by decide +kernel) (pa_cons (pe_lc (own := [("place", 3)]) rfl sc_zone_set.nd (pi_tup (pv 1)) (blkOk_by (N := N_zone_set) (sc := defScope s_zone_set) (by decide +kernel)) (fun _ _ _ _ _ => (pg_name (i := 3) sc_zone_set.nd rfl (.inl rfl))) (fun _ _ _ _ _ => pts_nil) (fun _ _ _ _ _ => (pe_cl c_is_between hr (by decide) (by rfl) (pa_cons (pv 3) (pa_cons pe_int (pa_cons (pe_op op_sub (pv 2) pe_int) pa_nil)))))) pa_nil))))))) (pss_one ps_never) pss_nil)
      (pss_one (ps_ret (pe_cl c_set_back hr (by decide) (by rfl) (pa_cons (pv 0) (pa_cons (pe_listRg rfl (by rfl) T.n_list (prg_1 (by rfl) T.n_range (pv 2))) (pa_cons (pv 1) pa_nil))))))))), ?_⟩
  refine q_drop (ev_call (ea_cons (ev_var rfl) ea_nil) (sv_check ha h2 h4 hbd hz)) fun H1 e1 => ?_
  refine q_asg (v := .int ((n - 1 : Nat) : Int)) (ev_is (ev_op (ev_call (ea_cons (ev_var rfl) ea_nil) (sv_side (ex_t e1 ha) (zv_len n S) (by omega) (by omega))) ev_c rv_I0) (by congr 1; omega)) fun H2 e2 => ?_
  have hp2 := ex_t (e1.trans e2) hp
  have hz2 : (ps.map fun i : Nat => V.int ((i : Nat) : Int)).length ≤ 40000 := by
    rw [List.length_map]
    omega
  refine q_when (b := false) (et_or (a := false) (et_is (et_not (a := true) (et_test (ev_isiT (ev_var rfl) hp2 (by decide +kernel)))) rfl) fun _ => et_is (et_not (et_test (ev_allT (fun _ => true) (ev_var rfl) hp2 hz2 (fun _ => rfl) fun x H3 e3 hx => ?_))) (by rw [all_true]; rfl)) (fun hb => by cases hb) fun _ H3 e3 => ?_
  · obtain ⟨i, hi, rfl⟩ := List.mem_map.mp hx
    have hi2 := hps i hi
    refine ev_is (ev_call (ea_cons (ev_var rfl) (ea_cons ev_c (ea_cons (ev_op (ev_var rfl) ev_c rv_I0) ea_nil))) sv_is_between) ?_
    rw [decide_eq_true (show (0 : Int) ≤ (i : Int) by omega), decide_eq_true (show (i : Int) ≤ ((n - 1 : Nat) : Int) - 1 by omega)]
    rfl
  have e13 := (e1.trans e2).trans e3
  exact s_retU (eu_callM (ev_var rfl) (el_ck (m := n - 1) (ev_var rfl) (by omega)) (ev_var rfl) fun l H4 e4 h4l Q2 q2 => ⟨a, l, p, n, S, ps, rfl, ex_t (e13.trans e4) ha, sq_of h4l, ex_t (e13.trans e4) hp, hps, by omega, h4, hpl, q2⟩) fun q H4 hq e4 h => k q H4 (fresh_back e13 hq) (e13.trans e4) h
/-! ### is_zone_within, is_in_zone -/
def spWithin (K : PySem.W.Frag) : Sp := fun vs H Q _ => ∃ (a b : Addr) (n : Nat) (S R : Sq), vs = [.ref a, .ref b] ∧ SqT K H a (zv n S) ∧ SqT K H b (zv n R) ∧ 2 ≤ n ∧ n ≤ 4 ∧ Bd 1000 n S ∧ Bd 1000 n R ∧ zoneB n S = true ∧ zoneB n R = true ∧ RetV (.bl (intsLe (zl n S) (zl n R))) H Q
theorem c_is_zone_within (T : Tx K mg aU aC) (D : Df K mg "is_zone_within" s_is_zone_within ["one", "other"]) (c_check_zone : Cl P w K mg base 5 "check_zone" (spCheck K)) (c_lies_within : Cl P w K mg base 1 "lies_within" (spLies K)) : Cl P w K mg base 6 "is_zone_within" (spWithin K) := by
  refine D.cl sc_is_zone_within (fun vs H Q E h => by obtain ⟨_, _, _, _, _, rfl, _⟩ := h; rfl) (fun f cdv A outer s H vs Q E hr h => ?_)
  obtain ⟨a, b, n, S, R, rfl, ha, hb, h2, h4, hbS, hbR, hzS, hzR, k⟩ := h
  refine ⟨_, (pss_cons (ps_expr (pe_cl c_check_zone hr (by decide) (by rfl) (pa_cons (pv 0) pa_nil)))
      (pss_cons (ps_expr (pe_cl c_check_zone hr (by decide) (by rfl) (pa_cons (pv 1) pa_nil)))
      (pss_cons (ps_if (pt_cmpR op_ne (pe_callB (lenK (K := K)) (by rfl) T.n_len PySem.boot_len (pa_cons (pv 0) pa_nil)) (pe_callB (lenK (K := K)) (by rfl) T.n_len PySem.boot_len (pa_cons (pv 1) pa_nil)) (nomark _)) (pss_one ps_never) pss_nil)
      (pss_one (ps_ret (pe_cl c_lies_within hr (by decide) (by rfl) (pa_cons (pv 0) (pa_cons (pv 1) pa_nil)))))))), ?_⟩
  refine q_drop (ev_call (ea_cons (ev_var rfl) ea_nil) (sv_check ha h2 h4 hbS hzS)) fun H1 e1 => ?_
  refine q_drop (ev_call (ea_cons (ev_var rfl) ea_nil) (sv_check (ex_t e1 hb) h2 h4 hbR hzR)) fun H2 e2 => ?_
  have ha2 := ex_t (e1.trans e2) ha
  have hb2 := ex_t (e1.trans e2) hb
  refine q_when (b := false) (et_is (et_test (ev_op (ev_lenT (ev_var rfl) ha2) (ev_lenT (ev_var rfl) hb2) (rv_ne rfl))) (by rw [zv_len, zv_len]; simp)) (fun hb => by cases hb) fun _ H3 e3 => ?_
  have e13 := (e1.trans e2).trans e3
  have hnn : n * n ≤ 4 * 4 := Nat.mul_le_mul h4 h4
  refine s_retC (ea_cons (ev_var rfl) (ea_cons (ev_var rfl) ea_nil)) fun H4 e4 => ⟨a, b, zl n S, zl n R, rfl, ex_t (e13.trans e4) ha, ex_t (e13.trans e4) hb, by rw [Zm.zl_len, Zm.zl_len], by rw [Zm.zl_len]; omega, fun H5 e5 => k H5 ((e13.trans e4).trans e5)⟩
def spInZone (K : PySem.W.Frag) : Sp := fun vs H Q _ => ∃ (a v : Addr) (n : Nat) (S : Sq) (qs : List (Int × Int)), vs = [.ref a, .ref v] ∧ SqT K H a (zv n S) ∧ RwT K H v (qs.map fvs) ∧ qs.length + 1 = n ∧ 2 ≤ n ∧ n ≤ 4 ∧ (∀ q ∈ qs, FrOk q) ∧ Bd 1000 n S ∧ zoneB n S = true ∧ RetV (.bl (holdsB n S (ev0 qs))) H Q
theorem c_is_in_zone (T : Tx K mg aU aC) (D : Df K mg "is_in_zone" s_is_in_zone ["zone", "values"]) (c_check_zone : Cl P w K mg base 5 "check_zone" (spCheck K)) (c_side_of : Cl P w K mg base 1 "side_of" (spSide K)) (c_is_fraction : Cl P w K mg base 2 "is_fraction" (spFrac K)) (c_has_values : Cl P w K mg base 2 "has_values" (spHas K)) : Cl P w K mg base 6 "is_in_zone" (spInZone K) := by
  refine D.cl sc_is_in_zone (fun vs H Q E h => by obtain ⟨_, _, _, _, _, rfl, _⟩ := h; rfl) (fun f cdv A outer s H vs Q E hr h => ?_)
  obtain ⟨a, v, n, S, qs, rfl, ha, hv, hqn, h2, h4, hqs, hbd, hz, k⟩ := h
  obtain ⟨as, hv1, hv2⟩ := hv
  refine ⟨_, (pss_cons (ps_expr (pe_cl c_check_zone hr (by decide) (by rfl) (pa_cons (pv 0) pa_nil)))
      (pss_cons (ps_if (PW.pt (pw_or (pt_not (pt_val (pe_callB (isiK (K := K)) (by rfl) T.n_isinstance (by decide +kernel) (pa_cons (pv 1) (pa_cons (pe_gty (n := "tuple") T.n_tuple (by decide +kernel)) pa_nil))))) (pw_or1 (pt_cmpR op_ne (pe_callB (lenK (K := K)) (by rfl) T.n_len PySem.boot_len (pa_cons (pv 1) pa_nil)) (pe_op op_sub (pe_cl c_side_of hr (by decide) (by rfl) (pa_cons (pv 0) pa_nil)) pe_int) (nomark _))))) (pss_one ps_never) pss_nil)
      (pss_cons (ps_if (pt_not (pt_val (pe_callB (allK (K := K) rfl) (by rfl) T.n_all (by decide +kernel) (pa_cons (pe_lc (own := [("one", 2)]) rfl sc_is_in_zone.nd (pi_tup (pv 1)) (blkOk_by (N := N_is_in_zone) (sc := defScope s_is_in_zone) (by decide +kernel)) (fun _ _ _ _ _ => (pg_name (i := 2) sc_is_in_zone.nd rfl (.inl rfl))) (fun _ _ _ _ _ => pts_nil) (fun _ _ _ _ _ => (pe_cl c_is_fraction hr (by decide) (by rfl) (pa_cons (pv 2) pa_nil)))) pa_nil)))) (pss_one ps_never) pss_nil)
      (pss_one (ps_ret (pe_cl c_has_values hr (by decide) (by rfl) (pa_cons (pv 0) (pa_cons (pv 1) pa_nil)))))))), ?_⟩
  have hz2 : (as.map V.ref).length ≤ 40000 := by
    rw [List.length_map, hv2.1, List.length_map]
    omega
  have hlen : ((as.map V.ref).length : Int) = (n : Int) - 1 := by
    rw [List.length_map, hv2.1, List.length_map]
    omega
  refine q_drop (ev_call (ea_cons (ev_var rfl) ea_nil) (sv_check ha h2 h4 hbd hz)) fun H1 e1 => ?_
  have hv3 := ex_t e1 hv1
  refine q_when (b := false) (et_or (a := false) (et_is (et_not (a := true) (et_test (ev_isiT (ev_var rfl) hv3 (by decide +kernel)))) rfl) fun _ => et_is (et_test (ev_op (ev_lenT (ev_var rfl) hv3) (ev_op (ev_call (ea_cons (ev_var rfl) ea_nil) (sv_side (ex_t e1 ha) (zv_len n S) (by omega) (by omega))) ev_c rv_I0) (rv_ne rfl))) (by rw [hlen]; simp)) (fun hb => by cases hb) fun _ H2 e2 => ?_
  refine q_when (b := false) (et_is (et_not (et_test (ev_allT (fun _ => true) (ev_var rfl) (ex_t e2 hv3) hz2 (fun _ => rfl) fun x H3 e3 hx => ?_))) (by rw [all_true]; rfl)) (fun hb => by cases hb) fun _ H3 e3 => ?_
  · obtain ⟨b, hb, rfl⟩ := List.mem_map.mp hx
    obtain ⟨i, hi⟩ := List.mem_iff_getElem?.mp hb
    have hil : i < qs.length := by
      have := (List.getElem?_eq_some_iff.mp hi).1
      rw [hv2.1, List.length_map] at this
      exact this
    have hrow := (hv2.ex ((e1.trans e2).trans e3)).2 i b (fvs qs[i]) hi (by rw [List.getElem?_map, List.getElem?_eq_getElem hil]; rfl)
    obtain ⟨_, _, o3, _, o5⟩ := hqs _ (List.getElem_mem hil)
    exact ev_call (ea_cons (ev_var rfl) ea_nil) (sv_frac hrow o3 o5)
  · have e13 := (e1.trans e2).trans e3
    exact s_retC (ea_cons (ev_var rfl) (ea_cons (ev_var rfl) ea_nil)) fun H4 e4 => ⟨a, v, n, S, qs, rfl, ex_t (e13.trans e4) ha, RwT.ex ⟨as, hv1, hv2⟩ (e13.trans e4), hqn, h4, hqs, hbd, fun H5 e5 => k H5 ((e13.trans e4).trans e5)⟩
end
end Zb
set_option Elab.async false
set_option linter.all false
set_option maxRecDepth 100000
set_option maxHeartbeats 4000000
namespace Zb
open PySem PySem.Spec PyProof.Rows L2 L2.DX Zg Evl
open StX (pa_star tStar)
open RZ (pi_zipA iZipA ItzT)
open Zm (sumE Sq B zl enc dec fw neg Up both less at3 mids rows cols Edge gmin gall EdgeOk Zn NonNeg Clo)

/-! ### squares as dicts -/
def kk (n p : Nat) : List L2.Key := [.inl ((p / n : Nat) : Int), .inl ((p % n : Nat) : Int)]
def kvt (n m : Nat) (u : Nat → V) : List (List L2.Key × V) := (List.range m).map fun p => (kk n p, u p)
theorem kk_at {n i j : Nat} (hj : j < n) : kk n (i * n + j) = [.inl (i : Int), .inl (j : Int)] := by
  unfold kk
  rw [Zm.place_div hj, Zm.place_mod hj]
theorem kk_inj {n p q : Nat} (h : kk n p = kk n q) : p = q := by
  unfold kk at h
  injection h with h1 h2
  injection h2 with h2 _
  injection h1 with h1
  injection h2 with h2
  have h1 : p / n = q / n := by exact_mod_cast h1
  have h2 : p % n = q % n := by exact_mod_cast h2
  rw [← Nat.div_add_mod p n, ← Nat.div_add_mod q n, h1, h2]
theorem kvt_len (n m : Nat) (u : Nat → V) : (kvt n m u).length = m := by
  unfold kvt
  rw [List.length_map, List.length_range]
theorem kvt_keys (n m : Nat) (u : Nat → V) : (kvt n m u).map (·.1) = (List.range m).map (kk n) := by
  unfold kvt
  rw [List.map_map]
  rfl
theorem kvt_nodup (n m : Nat) (u : Nat → V) : ((kvt n m u).map (·.1)).Nodup := by
  rw [kvt_keys]
  exact List.Pairwise.map _ (fun a b h e => h (kk_inj e)) (List.nodup_range (n := m))
theorem kvt_succ (n m : Nat) (u : Nat → V) : kvt n (m + 1) u = kvt n m u ++ [(kk n m, u m)] := by
  unfold kvt
  rw [List.range_succ, List.map_append]
  rfl
theorem kvt_congr {n m : Nat} {u v : Nat → V} (h : ∀ p, p < m → u p = v p) : kvt n m u = kvt n m v := by
  unfold kvt
  refine List.map_congr_left fun p hp => ?_
  rw [h p (List.mem_range.mp hp)]
theorem valV_kvt {n p : Nat} {u : Nat → V} : ∀ {m : Nat}, p < m → valV (kvt n m u) (kk n p) = some (u p)
  | 0, h => by omega
  | m + 1, h => by
    rw [kvt_succ]
    have hn : valV (kvt n m u) (kk n m) = none := by
      unfold valV
      rw [Option.map_eq_none_iff, List.find?_eq_none]
      intro x hx
      obtain ⟨q, hq, rfl⟩ := List.mem_map.mp hx
      have hq := List.mem_range.mp hq
      simp only [decide_eq_true_eq]
      intro e
      have := kk_inj e
      omega
    rw [valV_snoc _ _ _ _ hn]
    by_cases e : p = m
    · subst e
      rw [if_pos rfl]
    · rw [if_neg (fun z => e (kk_inj z))]
      exact valV_kvt (by omega)
theorem valV_kvt_none {n m : Nat} {u : Nat → V} : valV (kvt n m u) (kk n m) = none := by
  unfold valV
  rw [Option.map_eq_none_iff, List.find?_eq_none]
  intro x hx
  obtain ⟨q, hq, rfl⟩ := List.mem_map.mp hx
  have hq := List.mem_range.mp hq
  simp only [decide_eq_true_eq]
  intro e
  have := kk_inj e
  omega
theorem putK_kvt {n m p : Nat} {u : Nat → V} {v : V} (h : p < m) : putK (kvt n m u) (kk n p) v = kvt n m (fun q => if q = p then v else u q) := by
  have ha : ((kvt n m u).any fun kv => decide (kv.1 = kk n p)) = true := by
    rw [valV_any, valV_kvt h]
    rfl
  unfold putK
  rw [if_pos ha]
  unfold kvt
  rw [List.map_map]
  refine List.map_congr_left fun q hq => ?_
  show (if kk n q = kk n p then (kk n q, v) else (kk n q, u q)) = (kk n q, if q = p then v else u q)
  by_cases e : q = p
  · rw [if_pos (by rw [e]), if_pos e]
  · rw [if_neg (fun z => e (kk_inj z)), if_neg e]
theorem putK_kvt_new {n m : Nat} {u : Nat → V} {v : V} : putK (kvt n m u) (kk n m) v = kvt n (m + 1) (fun q => if q = m then v else u q) := by
  rw [putK_new v valV_kvt_none, kvt_succ, if_pos rfl]
  rw [kvt_congr (u := u) (v := fun q => if q = m then v else u q) fun q hq => by rw [if_neg (by omega)]]
/-- a bound, as a value -/
def VB (K : PySem.W.Frag) (H : Hp) (v : V) : B → Prop
  | none => v = .non
  | some x => ∃ a, v = .ref a ∧ SqT K H a [.int x.1, .bl x.2]
theorem VB.ex {K : PySem.W.Frag} {H H1 : Hp} {v : V} {b : B} (h : VB K H v b) (e : Ex H H1) : VB K H1 v b := by
  cases b with
  | none => exact h
  | some x =>
    obtain ⟨a, e1, h1⟩ := h
    exact ⟨a, e1, ex_t e h1⟩
/-- what is no tuple may change -/
theorem eb_tt {K : PySem.W.Frag} {l a : Addr} {H H1 : Hp} {xs : List V} {o : HO} (e : Eb l H H1) (hl : H l = some o) (ht : ∀ ys, o ≠ .tup ys) (hf : ∀ z q, o ≠ .frz z q) (h : SqT K H a xs) : SqT K H1 a xs := by
  rcases h with (h | ⟨z, h⟩) | h
  · exact .inl (.inl (e a _ (fun q => ht xs (by rw [q, hl] at h; exact Option.some.inj h)) h))
  · exact .inl (.inr ⟨z, e a _ (fun q => hf _ _ (by rw [q, hl] at h; exact Option.some.inj h)) h⟩)
  · exact .inr h
theorem VB.eb {K : PySem.W.Frag} {H H1 : Hp} {v : V} {b : B} {l : Addr} {o : HO} (h : VB K H v b) (e : Eb l H H1) (hl : H l = some o) (ht : ∀ ys, o ≠ .tup ys) (hf : ∀ z q, o ≠ .frz z q) : VB K H1 v b := by
  cases b with
  | none => exact h
  | some x =>
    obtain ⟨a, e1, h1⟩ := h
    exact ⟨a, e1, eb_tt e hl ht hf h1⟩
/-- the first m places of a square -/
def SqM (K : PySem.W.Frag) (H : Hp) (d : Addr) (n m : Nat) (S : Sq) : Prop := ∃ u, H d = some (.dT (kvt n m u)) ∧ ∀ p, p < m → VB K H (u p) (S (p / n) (p % n))
abbrev SqD (K : PySem.W.Frag) (H : Hp) (d : Addr) (n : Nat) (S : Sq) : Prop := SqM K H d n (n * n) S
theorem SqM.ex {K : PySem.W.Frag} {H H1 : Hp} {d : Addr} {n m : Nat} {S : Sq} (h : SqM K H d n m S) (e : Ex H H1) : SqM K H1 d n m S := by
  obtain ⟨u, h1, h2⟩ := h
  exact ⟨u, e d _ h1, fun p hp => (h2 p hp).ex e⟩
theorem SqM.eb {K : PySem.W.Frag} {H H1 : Hp} {d l : Addr} {n m : Nat} {S : Sq} {o : HO} (h : SqM K H d n m S) (e : Eb l H H1) (hd : d ≠ l) (hl : H l = some o) (ht : ∀ ys, o ≠ .tup ys) (hf : ∀ z q, o ≠ .frz z q) : SqM K H1 d n m S := by
  obtain ⟨u, h1, h2⟩ := h
  exact ⟨u, e d _ hd h1, fun p hp => (h2 p hp).eb e hl ht hf⟩
theorem SqM.congr {K : PySem.W.Frag} {H : Hp} {d : Addr} {n : Nat} {S R : Sq} (h : SqD K H d n S) (e : ∀ i j, i < n → j < n → S i j = R i j) : SqD K H d n R := by
  obtain ⟨u, h1, h2⟩ := h
  exact ⟨u, h1, fun p hp => by rw [← e _ _ (Zm.div_lt_of hp) (Zm.mod_lt_of hp)]; exact h2 p hp⟩
theorem SqM.put {K : PySem.W.Frag} {H : Hp} {d : Addr} {n m i j : Nat} {S : Sq} {v : V} {b : B} (h : SqM K H d n m S) (hi : i * n + j < m) (hj : j < n) (hv : VB K H v b) :
    ∃ kvs, H d = some (.dT kvs) ∧ kvs.length = m ∧ SqM K (upd H d (.dT (putK kvs [.inl (i : Int), .inl (j : Int)] v))) d n m (Zm.put S i j b) := by
  obtain ⟨u, h1, h2⟩ := h
  refine ⟨_, h1, kvt_len n m u, ?_⟩
  rw [← kk_at hj, putK_kvt hi]
  have e : Eb d H (upd H d (.dT (kvt n m fun q => if q = i * n + j then v else u q))) := (Eb.refl d H).upd
  refine ⟨_, upd_same, fun p hp => ?_⟩
  by_cases q : p = i * n + j
  · subst q
    rw [if_pos rfl, Zm.place_div hj, Zm.place_mod hj, Zm.put_same]
    exact hv.eb e h1 (fun _ z => by cases z) (fun _ _ z => by cases z)
  · rw [if_neg q, Zm.put_ne (fun z => q (by rw [← Zm.place_of (n := n) (p := p), z.1, z.2]))]
    exact (h2 p hp).eb e h1 (fun _ z => by cases z) (fun _ _ z => by cases z)
theorem SqM.add {K : PySem.W.Frag} {H : Hp} {d : Addr} {n i j : Nat} {S : Sq} {v : V} (h : SqM K H d n (i * n + j) S) (hj : j < n) (hv : VB K H v (S i j)) :
    ∃ kvs, H d = some (.dT kvs) ∧ kvs.length = i * n + j ∧ SqM K (upd H d (.dT (putK kvs [.inl (i : Int), .inl (j : Int)] v))) d n (i * n + j + 1) S := by
  obtain ⟨u, h1, h2⟩ := h
  refine ⟨_, h1, kvt_len n _ u, ?_⟩
  rw [← kk_at hj, putK_kvt_new]
  have e : Eb d H (upd H d (.dT (kvt n (i * n + j + 1) fun q => if q = i * n + j then v else u q))) := (Eb.refl d H).upd
  refine ⟨_, upd_same, fun p hp => ?_⟩
  by_cases q : p = i * n + j
  · subst q
    rw [if_pos rfl, Zm.place_div hj, Zm.place_mod hj]
    exact hv.eb e h1 (fun _ z => by cases z) (fun _ _ z => by cases z)
  · rw [if_neg q]
    exact (h2 p (by omega)).eb e h1 (fun _ z => by cases z) (fun _ _ z => by cases z)
/-! ### values that are bounds -/
def EvB (K : PySem.W.Frag) (te : TE) (σ : L2.St) (H : Hp) (b : B) : Prop := ∀ H1, Ex H H1 → ∀ Q : VK, (∀ z H2, Ex H1 H2 → VB K H2 z b → Q z H2) → te σ H1 Q
def RetB (K : PySem.W.Frag) (b : B) (H : Hp) (Q : VK) : Prop := ∀ z H2, Ex H H2 → VB K H2 z b → Q z H2
def RetD (K : PySem.W.Frag) (n : Nat) (S : Sq) (H : Hp) (Q : VK) : Prop := ∀ p H2, H p = none → Ex H H2 → SqD K H2 p n S → Q (.ref p) H2
def RetDX (K : PySem.W.Frag) (b : Bool) (n : Nat) (S : Sq) (H : Hp) (Q : VK) : Prop := (b = true → RetV .non H Q) ∧ (b = false → RetD K n S H Q)
section
variable {K : PySem.W.Frag} {σ : L2.St} {H H' : Hp} {ta tb tc td te tv tx : TE} {t u : TT} {x y z v : V} {r : R2} {D : Ends} {tu tw tz : TS}
theorem RetDX.go {b : Bool} {n : Nat} {S : Sq} {Q : VK} (k : RetDX K b n S H Q) (e : Ex H H') : RetDX K b n S H' Q := ⟨fun h H2 e2 => k.1 h H2 (e.trans e2), fun h p H2 hp e2 h2 => k.2 h p H2 (fresh_back e hp) (e.trans e2) h2⟩
theorem eb_var {i : Nat} {b : B} (h : σ[i]? = some (some v)) (hv : VB K H v b) : EvB K (tVar i) σ H b := fun H1 e Q q => ⟨v, h, q v H1 (Ex.refl H1) (hv.ex e)⟩
theorem eb_non : EvB K (tC .non) σ H none := fun H1 e Q q => q _ H1 (Ex.refl H1) rfl
theorem eb_tup {i : Int} {p : Bool} (ha : Ev ta σ H (.int i)) (hb : Ev tb σ H (.bl p)) : EvB K (tTup (tCons ta (tCons tb tNil))) σ H (some (i, p)) := fun H1 e Q q =>
  eu_tup (ea_cons ha (ea_cons hb ea_nil)) (by show 2 ≤ 100000; decide) H1 e Q fun a H2 _ e2 h2 => q _ H2 e2 ⟨a, rfl, st_of h2⟩
theorem eb_if {b : Bool} {c : B} (h : EvT t σ H b) (h1 : b = true → EvB K ta σ H c) (h2 : b = false → EvB K tb σ H c) : EvB K (tIf t ta tb) σ H c := fun H1 e Q q => h H1 e _ fun H2 e2 => by
  cases b with
  | true =>
    rw [if_pos rfl]
    exact h1 rfl H2 (e.trans e2) Q fun z H3 e3 h3 => q z H3 (e2.trans e3) h3
  | false =>
    rw [if_neg Bool.false_ne_true]
    exact h2 rfl H2 (e.trans e2) Q fun z H3 e3 h3 => q z H3 (e2.trans e3) h3
theorem eb_is {b c : B} (h : EvB K te σ H b) (e : b = c) : EvB K te σ H c := by
  rw [← e]
  exact h
/-- what a name of a bound is: none or not -/
theorem vb_none {b : B} {w : V} (h : VB K H w b) : decide (w = .non) = b.isNone := by
  cases b with
  | none =>
    have : w = .non := h
    rw [this]
    rfl
  | some x =>
    obtain ⟨a, rfl, _⟩ := h
    rfl
/-- square[i, j] -/
theorem eb_get {d : Addr} {n i j : Nat} {S : Sq} (hd : Ev td σ H (.ref d)) (ha : Ev ta σ H (.int (i : Int))) (hb : Ev tb σ H (.int (j : Int))) (hs : SqD K H d n S) (hi : i < n) (hj : j < n) : EvB K (tDGet td (tTup (tCons ta (tCons tb tNil)))) σ H (S i j) := fun H1 e Q q =>
  hd H1 e _ fun H2 e2 => eu_tup (ea_cons ha (ea_cons hb ea_nil)) (by show 2 ≤ 100000; decide) H2 (e.trans e2) _ fun a H3 _ e3 h3 => by
    obtain ⟨w, h1, h2⟩ := hs.ex ((e.trans e2).trans e3)
    have hp := Zm.place_lt hi hj
    refine ⟨d, w (i * n + j), rfl, .inr ⟨_, [.inl (i : Int), .inl (j : Int)], a, .inl h1, rfl, h3, ?_⟩, q _ H3 (e2.trans e3) ?_⟩
    · rw [← kk_at hj, valV_kvt hp]
    · have := h2 _ hp
      rw [Zm.place_div hj, Zm.place_mod hj] at this
      exact this
theorem eb_getV {d a : Addr} {n i j : Nat} {S : Sq} (hd : Ev td σ H (.ref d)) (ha : Ev ta σ H (.ref a)) (h : H a = some (.tup [.int (i : Int), .int (j : Int)])) (hs : SqD K H d n S) (hi : i < n) (hj : j < n) : EvB K (tDGet td ta) σ H (S i j) := fun H1 e Q q =>
  hd H1 e _ fun H2 e2 => ha H2 (e.trans e2) _ fun H3 e3 => by
    have h3 := ((e.trans e2).trans e3) a _ h
    obtain ⟨w, h1, h2⟩ := hs.ex ((e.trans e2).trans e3)
    have hp := Zm.place_lt hi hj
    refine ⟨d, w (i * n + j), rfl, .inr ⟨_, [.inl (i : Int), .inl (j : Int)], a, .inl h1, rfl, h3, ?_⟩, q _ H3 (e2.trans e3) ?_⟩
    · rw [← kk_at hj, valV_kvt hp]
    · have := h2 _ hp
      rw [Zm.place_div hj, Zm.place_mod hj] at this
      exact this
/-- square[i, j] = .. -/
theorem s_dput {d : Addr} {n m i j : Nat} {S : Sq} {b : B} (hv : EvB K tv σ H b) (hd : Ev td σ H (.ref d)) (ha : Ev ta σ H (.int (i : Int))) (hb : Ev tb σ H (.int (j : Int))) (hs : SqM K H d n m S) (hi : i * n + j < m) (hm : m ≤ 1000) (hj : j < n)
    (k : ∀ H1, Eb d H H1 → SqM K H1 d n m (Zm.put S i j b) → D.nx σ H1) : sDPut td (tTup (tCons ta (tCons tb tNil))) tv D σ H :=
  hv H (Ex.refl H) _ fun w H1 e1 hw => hd H1 e1 _ fun H2 e2 => eu_tup (ea_cons ha (ea_cons hb ea_nil)) (by show 2 ≤ 100000; decide) H2 (e1.trans e2) _ fun a H3 _ e3 h3 => by
    obtain ⟨kvs, h1, hl, h2⟩ := (hs.ex ((e1.trans e2).trans e3)).put hi hj (hw.ex (e2.trans e3))
    exact ⟨d, _, rfl, .inr ⟨kvs, [.inl (i : Int), .inl (j : Int)], a, h1, rfl, h3, sz_lt (by omega), rfl⟩, k _ (Eb.of ((e1.trans e2).trans e3)).upd h2⟩
theorem q_dput {d : Addr} {n m i j : Nat} {S : Sq} {b : B} (hv : EvB K tv σ H b) (hd : Ev td σ H (.ref d)) (ha : Ev ta σ H (.int (i : Int))) (hb : Ev tb σ H (.int (j : Int))) (hs : SqM K H d n m S) (hi : i * n + j < m) (hm : m ≤ 1000) (hj : j < n)
    (k : ∀ H1, Eb d H H1 → SqM K H1 d n m (Zm.put S i j b) → tz D σ H1) : tSeq (sDPut td (tTup (tCons ta (tCons tb tNil))) tv) tz D σ H := s_dput (D := { D with nx := tz D }) hv hd ha hb hs hi hm hj k
theorem s_dputV {d a : Addr} {n m i j : Nat} {S : Sq} {b : B} (hv : EvB K tv σ H b) (hd : Ev td σ H (.ref d)) (ha : Ev ta σ H (.ref a)) (h : H a = some (.tup [.int (i : Int), .int (j : Int)])) (hs : SqM K H d n m S) (hi : i * n + j < m) (hm : m ≤ 1000) (hj : j < n)
    (k : ∀ H1, Eb d H H1 → SqM K H1 d n m (Zm.put S i j b) → D.nx σ H1) : sDPut td ta tv D σ H :=
  hv H (Ex.refl H) _ fun w H1 e1 hw => hd H1 e1 _ fun H2 e2 => ha H2 (e1.trans e2) _ fun H3 e3 => by
    obtain ⟨kvs, h1, hl, h2⟩ := (hs.ex ((e1.trans e2).trans e3)).put hi hj (hw.ex (e2.trans e3))
    exact ⟨d, _, rfl, .inr ⟨kvs, [.inl (i : Int), .inl (j : Int)], a, h1, rfl, ((e1.trans e2).trans e3) a _ h, sz_lt (by omega), rfl⟩, k _ (Eb.of ((e1.trans e2).trans e3)).upd h2⟩
/-- the next place of a new square -/
theorem s_dadd {d : Addr} {n i j : Nat} {S : Sq} (hv : EvB K tv σ H (S i j)) (hd : Ev td σ H (.ref d)) (ha : Ev ta σ H (.int (i : Int))) (hb : Ev tb σ H (.int (j : Int))) (hs : SqM K H d n (i * n + j) S) (hm : i * n + j ≤ 1000) (hj : j < n)
    (k : ∀ H1, Eb d H H1 → SqM K H1 d n (i * n + j + 1) S → D.nx σ H1) : sDPut td (tTup (tCons ta (tCons tb tNil))) tv D σ H :=
  hv H (Ex.refl H) _ fun w H1 e1 hw => hd H1 e1 _ fun H2 e2 => eu_tup (ea_cons ha (ea_cons hb ea_nil)) (by show 2 ≤ 100000; decide) H2 (e1.trans e2) _ fun a H3 _ e3 h3 => by
    obtain ⟨kvs, h1, hl, h2⟩ := (hs.ex ((e1.trans e2).trans e3)).add hj (hw.ex (e2.trans e3))
    exact ⟨d, _, rfl, .inr ⟨kvs, [.inl (i : Int), .inl (j : Int)], a, h1, rfl, h3, sz_lt (by omega), rfl⟩, k _ (Eb.of ((e1.trans e2).trans e3)).upd h2⟩
/-- dict(list(d.items())) put to a name -/
theorem q_copy {i : Nat} {d : Addr} {n : Nat} {S : Sq} (hd : Ev td σ H (.ref d)) (hs : SqD K H d n S) (k : ∀ p H1, H p = none → Ex H H1 → SqD K H1 p n S → tz D (σ.set i (some (.ref p))) H1) :
    tSeq (tAsg (tCB (rDictPT K) (tCons (tCB rListItT (tCons (tBM0 K "dict" rItemsT td) tNil)) tNil)) (gName i)) tz D σ H :=
  hd H (Ex.refl H) _ fun H1 e1 => by
    obtain ⟨w, h1, h2⟩ := hs.ex e1
    refine ⟨.inr (.inr (.inl ⟨rfl, .inr ⟨_, h1⟩⟩)), d, _, rfl, rfl, h1, fun p hp => ⟨p, d, kvt n (n * n) w, rfl, upd_same, by rw [upd_ne (ne_of_none h1 hp)]; exact h1, fun H2 l ts hsame hl h2l hpr => ⟨l, ts, kvt n (n * n) w, rfl, sq_of h2l, hpr, kvt_nodup n _ w, fun q hq => ?_⟩⟩⟩
    have e12 : Ex H1 H2 := (Ex.new hp).trans hsame
    exact k q _ (fresh_back (e1.trans e12) hq) ((e1.trans e12).trans (Ex.new hq)) ⟨w, upd_same, fun p hp => ((h2 p hp).ex e12).ex (Ex.new hq)⟩
/-- {} put to a name -/
theorem q_dnew {i : Nat} {n : Nat} {S : Sq} (k : ∀ p H1, H p = none → Ex H H1 → SqM K H1 p n 0 S → tz D (σ.set i (some (.ref p))) H1) : tSeq (tAsg tDNewT (gName i)) tz D σ H :=
  fun p hp => k p _ hp (Ex.new hp) ⟨fun _ => .non, upd_same, fun p hp => by omega⟩
/-- a bound put to a name -/
theorem q_asgB {i : Nat} {b : B} (h : EvB K te σ H b) (k : ∀ w H1, Ex H H1 → VB K H1 w b → tz D (σ.set i (some w)) H1) : tSeq (tAsg te (gName i)) tz D σ H := h H (Ex.refl H) _ fun w H1 e hw => k w H1 e hw
theorem s_retB {b : B} (h : EvB K te σ H b) (k : RetB K b H D.rt) : tRet te D σ H := h H (Ex.refl H) _ fun w H1 e hw => k w H1 e hw
end
end Zb
set_option Elab.async false
set_option linter.all false
set_option maxRecDepth 100000
set_option maxHeartbeats 4000000
namespace Zb
open PySem PySem.Spec PyProof.Rows L2 L2.DX Zg Evl
open StX (pa_star tStar)
open RZ (pi_zipA iZipA ItzT)
open Zm (sumE Sq B zl enc dec fw neg Up both less at3 mids rows cols Edge gmin gall EdgeOk Zn NonNeg Clo)

section
variable {K : PySem.W.Frag} {σ : L2.St} {H H' : Hp} {ta tb tc td te tv tx : TE} {t u : TT} {x y z v : V} {r : R2} {D : Ends} {tu tw tz : TS}
/-! ### both, less -/
def spBoth (K : PySem.W.Frag) : Sp := fun vs H Q _ => ∃ (v w : V) (a b : B), vs = [v, w] ∧ VB K H v a ∧ VB K H w b ∧ RetB K (both a b) H Q
def spLess (K : PySem.W.Frag) : Sp := fun vs H Q _ => ∃ (v w : V) (a b : B), vs = [v, w] ∧ VB K H v a ∧ VB K H w b ∧ RetV (.bl (less a b)) H Q
theorem eb_both {a b : B} {E : XK} (ha : EvB K ta σ H a) (hb : EvB K tb σ H b) : EvB K (tCall (spBoth K) [] E (tCons ta (tCons tb tNil))) σ H (both a b) := fun H1 e Q q =>
  ha H1 e _ fun v H2 e2 h2 => hb H2 (e.trans e2) _ fun w H3 e3 h3 => ⟨v, w, a, b, rfl, h2.ex e3, h3, fun z H4 e4 h4 => q z H4 ((e2.trans e3).trans e4) h4⟩
theorem ev_less {a b : B} {E : XK} (ha : EvB K ta σ H a) (hb : EvB K tb σ H b) : Ev (tCall (spLess K) [] E (tCons ta (tCons tb tNil))) σ H (.bl (less a b)) := fun H1 e Q q =>
  ha H1 e _ fun v H2 e2 h2 => hb H2 (e.trans e2) _ fun w H3 e3 h3 => ⟨v, w, a, b, rfl, h2.ex e3, h3, fun H4 e4 => q H4 ((e2.trans e3).trans e4)⟩
theorem ev_is0 {b : B} (ha : EvB K ta σ H b) : Ev (tOp (fun x y H Q => y = V.non ∧ Q (.bl (decide (x = .non))) H) ta (tC .non)) σ H (.bl b.isNone) := fun H1 e Q q =>
  ha H1 e _ fun w H2 e2 h2 => ⟨rfl, by rw [vb_none h2]; exact q H2 e2⟩
theorem ev_not0 {b : B} (ha : EvB K ta σ H b) : Ev (tOp (fun x y H Q => y = V.non ∧ Q (.bl (!decide (x = .non))) H) ta (tC .non)) σ H (.bl (!b.isNone)) := fun H1 e Q q =>
  ha H1 e _ fun w H2 e2 h2 => ⟨rfl, by rw [vb_none h2]; exact q H2 e2⟩
theorem ev_num {b : Int × Bool} (ha : EvB K ta σ H (some b)) : Ev (tOp (rIxT K) ta (tC (.int 0))) σ H (.int b.1) := fun H1 e Q q =>
  ha H1 e _ fun w H2 e2 h2 => by
    obtain ⟨a, rfl, h⟩ := h2
    exact ⟨a, _, 0, _, rfl, rfl, h, rfl, q H2 e2⟩
theorem ev_flag {b : Int × Bool} (ha : EvB K ta σ H (some b)) : Ev (tOp (rIxT K) ta (tC (.int 1))) σ H (.bl b.2) := fun H1 e Q q =>
  ha H1 e _ fun w H2 e2 h2 => by
    obtain ⟨a, rfl, h⟩ := h2
    exact ⟨a, _, 1, _, rfl, rfl, h, rfl, q H2 e2⟩
end
section
variable {P : Program} {w : World} {K : PySem.W.Frag} {mg : Str → Option Value} {base : Heap} {aU aC : Addr}
theorem c__law_both (T : Tx K mg aU aC) (D : Df K mg "_law_both" s__law_both ["one", "other"]) : Cl P w K mg base 1 "_law_both" (spBoth K) := by
  refine D.cl sc__law_both (fun vs H Q E h => by obtain ⟨_, _, _, _, rfl, _⟩ := h; rfl) (fun f cdv A outer s H vs Q E hr h => ?_)
  obtain ⟨v, w, a, b, rfl, hv, hw, k⟩ := h
  refine ⟨_, (pss_one (ps_ret (pe_ifExp (PW.pt (pw_or (pt_cmpR op_isN (pv 0) pe_non (nomark _)) (pw_or1 (pt_cmpR op_isN (pv 1) pe_non (nomark _))))) pe_non (pe_tup (pa_cons (pe_op op_add (pe_ix (ixT (K := K)) (pv 0) pe_int (fun _ _ => rfl)) (pe_ix (ixT (K := K)) (pv 1) pe_int (fun _ _ => rfl))) (pa_cons (pe_and (pe_ix (ixT (K := K)) (pv 0) pe_int (fun _ _ => rfl)) (pe_one (pe_ix (ixT (K := K)) (pv 1) pe_int (fun _ _ => rfl)))) pa_nil)))))), ?_⟩
  have h0 := eb_var (K := K) (σ := [some v, some w]) (i := 0) rfl hv
  have h1 := eb_var (K := K) (σ := [some v, some w]) (i := 1) rfl hw
  refine s_retB (eb_if (b := a.isNone || b.isNone) (et_or (et_test (ev_is0 h0)) fun _ => et_test (ev_is0 h1)) (fun hb => ?_) fun hb => ?_) k
  · refine eb_is eb_non ?_
    cases a with
    | none => rw [Zm.both_none_l]
    | some x => cases b with
      | none => rw [Zm.both_none_r]
      | some y => cases hb
  · cases a with
    | none => cases hb
    | some x => cases b with
      | none => cases hb
      | some y =>
        refine eb_is (eb_tup (ev_op (ev_num h0) (ev_num h1) rv_I0) (ev_andV (ev_flag h0) fun _ => ev_flag h1)) ?_
        rfl
theorem c__law_is_less (T : Tx K mg aU aC) (D : Df K mg "_law_is_less" s__law_is_less ["one", "other"]) : Cl P w K mg base 1 "_law_is_less" (spLess K) := by
  refine D.cl sc__law_is_less (fun vs H Q E h => by obtain ⟨_, _, _, _, rfl, _⟩ := h; rfl) (fun f cdv A outer s H vs Q E hr h => ?_)
  obtain ⟨v, w, a, b, rfl, hv, hw, k⟩ := h
  refine ⟨_, (pss_cons (ps_if (PW.pt (pw_or (pt_cmpR op_isN (pv 0) pe_non (nomark _)) (pw_or1 (pt_cmpR op_isN (pv 1) pe_non (nomark _))))) (pss_one (ps_ret (pe_and (pe_cmpR op_notN (pv 0) pe_non (nomark _)) (pe_one (pe_cmpR op_isN (pv 1) pe_non (nomark _)))))) pss_nil)
      (pss_one (ps_ret (pe_or (pe_cmpR op_lt (pe_ix (ixT (K := K)) (pv 0) pe_int (fun _ _ => rfl)) (pe_ix (ixT (K := K)) (pv 1) pe_int (fun _ _ => rfl)) (nomark _)) (pe_one (pe_and (pe_cmpR op_eq (pe_ix (ixT (K := K)) (pv 0) pe_int (fun _ _ => rfl)) (pe_ix (ixT (K := K)) (pv 1) pe_int (fun _ _ => rfl)) (nomark _)) (pe_and (pe_ix (ixT (K := K)) (pv 1) pe_int (fun _ _ => rfl)) (pe_one (pe_not (pe_ix (ixT (K := K)) (pv 0) pe_int (fun _ _ => rfl))))))))))), ?_⟩
  have h0 := eb_var (K := K) (σ := [some v, some w]) (i := 0) rfl hv
  have h1 := eb_var (K := K) (σ := [some v, some w]) (i := 1) rfl hw
  refine q_when (b := a.isNone || b.isNone) (et_or (et_test (ev_is0 h0)) fun _ => et_test (ev_is0 h1)) (fun hb H1 e1 => ?_) fun hb H1 e1 => ?_
  · have h0 := eb_var (K := K) (σ := [some v, some w]) (i := 0) rfl (hv.ex e1)
    have h1 := eb_var (K := K) (σ := [some v, some w]) (i := 1) rfl (hw.ex e1)
    refine s_ret (ev_is (ev_andV (ev_not0 h0) fun _ => ev_is0 h1) ?_) fun H2 e2 => k H2 (e1.trans e2)
    cases a with
    | none => rfl
    | some x => cases b with
      | none => rfl
      | some y => cases hb
  · have h0 := eb_var (K := K) (σ := [some v, some w]) (i := 0) rfl (hv.ex e1)
    have h1 := eb_var (K := K) (σ := [some v, some w]) (i := 1) rfl (hw.ex e1)
    cases a with
    | none => cases hb
    | some x => cases b with
      | none => cases hb
      | some y =>
        refine s_ret (ev_is (ev_orV (ev_op (ev_num h0) (ev_num h1) rv_I0) fun _ => ev_andV (ev_op (ev_num h0) (ev_num h1) (rv_eq rfl)) fun _ => ev_andV (ev_flag h1) fun _ => ev_notV (ev_flag h0)) ?_) fun H2 e2 => k H2 (e1.trans e2)
        rw [int_eq]
        rfl
/-! ### tight -/
def spLTight (K : PySem.W.Frag) : Sp := fun vs H Q _ => ∃ (d : Addr) (n : Nat) (S : Sq), vs = [.ref d, .int n] ∧ SqD K H d n S ∧ 1 ≤ n ∧ n ≤ 4 ∧ RetDX K (neg n (fw n S)) n (fw n S) H Q
theorem c__law_tight (T : Tx K mg aU aC) (D : Df K mg "_law_tight" s__law_tight ["square", "many"]) (c__law_both : Cl P w K mg base 1 "_law_both" (spBoth K)) (c__law_is_less : Cl P w K mg base 1 "_law_is_less" (spLess K)) : Cl P w K mg base 2 "_law_tight" (spLTight K) := by
  refine D.cl sc__law_tight (fun vs H Q E h => by obtain ⟨_, _, _, rfl, _⟩ := h; rfl) (fun f cdv A outer s H vs Q E hr h => ?_)
  obtain ⟨d, n, S, rfl, hd, hn1, hn4, k⟩ := h
  refine ⟨_, (pss_cons (ps_set (i := 2) sc__law_tight.nd rfl (.inr rfl) (pe_callTy (call_dictPT rfl (hu64 hr)) (by rfl) T.n_dict (by decide +kernel) (pa_cons (pe_callTy (call_list_itemsT rfl) (by rfl) T.n_list (by decide +kernel) (pa_cons (pe_bm0 PySem.F.plainAttrs_dict PySem.F.slot_dict_items PySem.F.type_dict_items mt_itemsT (pv 0)) pa_nil)) pa_nil)))
      (pss_cons (ps_for PassesOwn.never rfl (pi_range1 (by rfl) T.n_range (pa_cons (pv 1) pa_nil)) (pg_name (i := 3) sc__law_tight.nd rfl (.inl rfl)) (pss_one (ps_for PassesOwn.never rfl (pi_range1 (by rfl) T.n_range (pa_cons (pv 1) pa_nil)) (pg_name (i := 4) sc__law_tight.nd rfl (.inl rfl)) (pss_one (ps_for PassesOwn.never rfl (pi_range1 (by rfl) T.n_range (pa_cons (pv 1) pa_nil)) (pg_name (i := 5) sc__law_tight.nd rfl (.inl rfl)) (pss_cons (ps_set (i := 6) sc__law_tight.nd rfl (.inl rfl) (pe_cl c__law_both hr (by decide) (by rfl) (pa_cons (pe_dget (hu_of hr) (pv 2) (pe_tup (pa_cons (pv 4) (pa_cons (pv 3) pa_nil))) (fun _ _ => rfl)) (pa_cons (pe_dget (hu_of hr) (pv 2) (pe_tup (pa_cons (pv 3) (pa_cons (pv 5) pa_nil))) (fun _ _ => rfl)) pa_nil))))
      (pss_one (ps_if (pt_val (pe_cl c__law_is_less hr (by decide) (by rfl) (pa_cons (pv 6) (pa_cons (pe_dget (hu_of hr) (pv 2) (pe_tup (pa_cons (pv 4) (pa_cons (pv 5) pa_nil))) (fun _ _ => rfl)) pa_nil)))) (pss_one (ps_dput (hu_of hr) (pv 2) (pe_tup (pa_cons (pv 4) (pa_cons (pv 5) pa_nil))) (pv 6) rfl)) pss_nil))))))))
      (pss_one (ps_ret (pe_ifExp (pt_val (pe_callB (anyK (K := K) rfl) (by rfl) T.n_any (by decide +kernel) (pa_cons (pe_lc (own := [("at", 7)]) rfl sc__law_tight.nd (pi_range1 (by rfl) T.n_range (pa_cons (pv 1) pa_nil)) (blkOk_by (N := N__law_tight) (sc := defScope s__law_tight) (by decide +kernel)) (fun _ _ _ _ _ => (pg_name (i := 7) sc__law_tight.nd rfl (.inl rfl))) (fun _ _ _ _ _ => pts_nil) (fun _ _ _ _ _ => (pe_cl c__law_is_less hr (by decide) (by rfl) (pa_cons (pe_dget (hu_of hr) (pv 2) (pe_tup (pa_cons (pv 7) (pa_cons (pv 7) pa_nil))) (fun _ _ => rfl)) (pa_cons (pe_tup (pa_cons pe_int (pa_cons pe_bl pa_nil))) pa_nil))))) pa_nil))) pe_non (pv 2)))))), ?_⟩
  have hn : (0 : Int) ≤ (n : Int) ∧ (n : Int) ≤ 100000 := ⟨by omega, by omega⟩
  have hnn : n * n ≤ 1000 := by
    have : n * n ≤ 4 * 4 := Nat.mul_le_mul hn4 hn4
    omega
  refine q_copy (ev_var rfl) hd fun l H1 hl e1 h1l => ?_
  refine q_forR1 (ea_cons (ev_var rfl) ea_nil) hn (fun k σ H' => ∃ y3 y4 y5 y6 y7, σ = [some (.ref d), some (.int n), some (.ref l), y3, y4, y5, y6, y7] ∧ SqD K H' l n (mids n k S) ∧ Ex H H') (fun H2 e2 => ⟨none, none, none, none, none, rfl, h1l.ex e2, e1.trans e2⟩) (fun k σ H2 hk hP => ?_) (fun σ H2 hP => ?_)
  · obtain ⟨y3, y4, y5, y6, y7, rfl, h2l, e2⟩ := hP
    have hk : k < n := by omega
    refine s_forR1 (ea_cons (ev_var rfl) ea_nil) hn (fun i σ H' => ∃ y4 y5 y6 y7, σ = [some (.ref d), some (.int n), some (.ref l), some (.int k), y4, y5, y6, y7] ∧ SqD K H' l n (rows n k i (mids n k S)) ∧ Ex H H') (fun H3 e3 => ⟨y4, y5, y6, y7, rfl, h2l.ex e3, e2.trans e3⟩) (fun i σ H3 hi hP => ?_) (fun σ H3 hP => ?_)
    · obtain ⟨y4, y5, y6, y7, rfl, h3l, e3⟩ := hP
      have hi : i < n := by omega
      refine s_forR1 (ea_cons (ev_var rfl) ea_nil) hn (fun j σ H' => ∃ y5 y6 y7, σ = [some (.ref d), some (.int n), some (.ref l), some (.int k), some (.int i), y5, y6, y7] ∧ SqD K H' l n (at3 n k i j S) ∧ Ex H H') (fun H4 e4 => ⟨y5, y6, y7, rfl, h3l.ex e4, e3.trans e4⟩) (fun j σ H4 hj hP => ?_) (fun σ H4 hP => ?_)
      · obtain ⟨y5, y6, y7, rfl, h4l, e4⟩ := hP
        have hj : j < n := by omega
        have eN : at3 n k i (j + 1) S = Zm.step k i j (at3 n k i j S) := rfl
        refine q_asgB (eb_both (eb_get (ev_var rfl) (ev_var rfl) (ev_var rfl) h4l hi hk) (eb_get (ev_var rfl) (ev_var rfl) (ev_var rfl) h4l hk hj)) fun z H5 e5 hz => ?_
        refine s_when (b := less (both (at3 n k i j S i k) (at3 n k i j S k j)) (at3 n k i j S i j)) (et_B (ev_less (eb_var rfl hz) (eb_get (ev_var rfl) (ev_var rfl) (ev_var rfl) (h4l.ex e5) hi hj))) (fun hb H6 e6 => ?_) (fun hb H6 e6 => ?_)
        · refine s_dput (eb_var rfl (hz.ex e6)) (ev_var rfl) (ev_var rfl) (ev_var rfl) (h4l.ex (e5.trans e6)) (Zm.place_lt hi hj) hnn hj fun H7 e7 h7 => ⟨_, _, _, rfl, ?_, Eb.ex ((e4.trans e5).trans e6) hl e7⟩
          rw [eN]
          unfold Zm.step
          rw [if_pos hb]
          exact h7
        · refine ⟨_, _, _, rfl, ?_, (e4.trans e5).trans e6⟩
          rw [eN]
          unfold Zm.step
          rw [hb, if_neg Bool.false_ne_true]
          exact h4l.ex (e5.trans e6)
      · obtain ⟨y5, y6, y7, rfl, h4l, e4⟩ := hP
        exact ⟨_, _, _, _, rfl, h4l, e4⟩
    · obtain ⟨y4, y5, y6, y7, rfl, h3l, e3⟩ := hP
      exact ⟨_, _, _, _, _, rfl, h3l, e3⟩
  · obtain ⟨y3, y4, y5, y6, y7, rfl, h2l, e2⟩ := hP
    have h2l : SqD K H2 l n (fw n S) := h2l
    have hA : EvT (tB (tCB (rAny K) (tCons (tLc (iRng1 (tCons (tVar 1) tNil)) (gName 7) tYes (tCall (spLess K) [] E0 (tCons (tDGet (tVar 2) (tTup (tCons (tVar 7) (tCons (tVar 7) tNil)))) (tCons (tTup (tCons (tC (.int 0)) (tCons (tC (.bl true)) tNil))) tNil))) [7]) tNil)))
        [some (.ref d), some (.int n), some (.ref l), y3, y4, y5, y6, y7] H2 (neg n (fw n S)) :=
      et_B (ev_anyR (n := (n : Int)) (fun i => less (fw n S i i) Zm.nil) (ea_cons (ev_var rfl) ea_nil) ⟨by omega, by omega⟩ (fun _ => rfl) fun i H3 e3 hi => ev_less (eb_get (ev_var rfl) (ev_var rfl) (ev_var rfl) (h2l.ex e3) (by omega) (by omega)) (eb_tup ev_c ev_c))
    refine hA H2 (Ex.refl _) _ fun H3 e3 => ?_
    cases hb : neg n (fw n S) with
    | true =>
      exact k.1 hb H3 (e2.trans e3)
    | false =>
      exact ⟨_, rfl, k.2 hb l H3 hl (e2.trans e3) (h2l.ex e3)⟩
end
end Zb
set_option Elab.async false
set_option linter.all false
set_option maxRecDepth 100000
set_option maxHeartbeats 4000000
namespace Zb
open PySem PySem.Spec PyProof.Rows L2 L2.DX Zg Evl
open StX (pa_star tStar)
open RZ (pi_zipA iZipA ItzT)
open Zm (sumE Sq B zl enc dec fw neg Up both less at3 mids rows cols Edge gmin gall EdgeOk Zn NonNeg Clo)

def freeS : Sq := fun i j => if i = 0 ∨ i = j then Zm.nil else none
def lawB (n : Nat) (S : Sq) : Bool := ((List.range n).all fun i => decide (S i i = Zm.nil) && !less Zm.nil (S 0 i)) && (!neg n (fw n S) && (List.range (n * n)).all fun p => decide (fw n S (p / n) (p % n) = S (p / n) (p % n)))
/-! ### bounds as data -/
def bD : B → PyData
  | none => .none
  | some x => .tuple [.int x.1, .bool x.2]
theorem bD_dp {K : PySem.W.Frag} {H : Hp} {v : V} {b : B} (h : VB K H v b) : Dp K H v (bD b) := by
  cases b with
  | none =>
    have : v = .non := h
    rw [this]
    exact .non
  | some x =>
    obtain ⟨a, rfl, h⟩ := h
    exact .tup h (.cons (.int _) (.cons (.bl _) .nil))
theorem bD_shaped (b : B) : SeqAt.shaped (bD b) = true := by
  cases b with
  | none => rfl
  | some x => rfl
theorem bD_eqv (a b : B) : PyData.eqv (bD a) (bD b) = decide (a = b) := by
  cases a with
  | none => cases b with
    | none => simp [bD, PyData.eqv]
    | some y => simp [bD, PyData.eqv]
  | some x => cases b with
    | none => simp [bD, PyData.eqv]
    | some y =>
      obtain ⟨i, p⟩ := x
      obtain ⟨j, q⟩ := y
      simp only [bD, PyData.eqv, PyData.eqvAll, Option.some.injEq, Prod.mk.injEq, Bool.decide_and, Bool.and_true]
      cases p <;> cases q <;> simp <;> rfl
section
variable {K : PySem.W.Frag} {σ : L2.St} {H H' : Hp} {ta tb tc td te tv tx : TE} {t u : TT} {x y z v : V} {r : R2} {D : Ends} {tu tw tz : TS}
theorem rv_neB {v w : V} {a b : B} (h1 : VB K H v a) (h2 : VB K H w b) : RV (rNeD K) v w H (.bl (!decide (a = b))) := by
  have e := rv_neD (K := K) (x := v) (y := w) (H := H) (fun H1 e => bD_dp (h1.ex e)) (fun H1 e => bD_dp (h2.ex e)) (bD_shaped a) (bD_shaped b)
  rw [bD_eqv] at e
  exact e
theorem ev_neB {a b : B} (ha : EvB K ta σ H a) (hb : EvB K tb σ H b) : Ev (tOp (rNeD K) ta tb) σ H (.bl (!decide (a = b))) := fun H1 e Q q =>
  ha H1 e _ fun v H2 e2 h2 => hb H2 (e.trans e2) _ fun w H3 e3 h3 => rv_neB (h2.ex e3) h3 H3 (Ex.refl _) Q fun H4 e4 => q H4 ((e2.trans e3).trans e4)
end
section
variable {P : Program} {w : World} {K : PySem.W.Frag} {mg : Str → Option Value} {base : Heap} {aU aC : Addr}
/-! ### told -/
theorem zv_take {n : Nat} (S : Sq) (m : Nat) (h : m ≤ n * n) : (zv n S).take m = (List.range m).map fun p => V.int (enc (S (p / n) (p % n))) := by
  unfold zv zl
  rw [List.map_map, ← List.map_take, List.take_range, Nat.min_eq_left h]
  rfl
def spTold (K : PySem.W.Frag) : Sp := fun vs H Q _ => ∃ (d : Addr) (n : Nat) (S : Sq), vs = [.ref d, .int n] ∧ SqD K H d n S ∧ 1 ≤ n ∧ n ≤ 4 ∧ RetU (zv n S) H Q
theorem c__law_told (T : Tx K mg aU aC) (D : Df K mg "_law_told" s__law_told ["square", "many"]) : Cl P w K mg base 1 "_law_told" (spTold K) := by
  refine D.cl sc__law_told (fun vs H Q E h => by obtain ⟨_, _, _, rfl, _⟩ := h; rfl) (fun f cdv A outer s H vs Q E hr h => ?_)
  obtain ⟨d, n, S, rfl, hd, hn1, hn4, k⟩ := h
  refine ⟨_, (pss_cons (ps_set (i := 2) sc__law_told.nd rfl (.inl rfl) (pe_lst pa_nil))
      (pss_cons (ps_for PassesOwn.never rfl (pi_range1 (by rfl) T.n_range (pa_cons (pv 1) pa_nil)) (pg_name (i := 3) sc__law_told.nd rfl (.inl rfl)) (pss_one (ps_for PassesOwn.never rfl (pi_range1 (by rfl) T.n_range (pa_cons (pv 1) pa_nil)) (pg_name (i := 4) sc__law_told.nd rfl (.inl rfl)) (pss_cons (ps_set (i := 5) sc__law_told.nd rfl (.inl rfl) (pe_dget (hu_of hr) (pv 0) (pe_tup (pa_cons (pv 3) (pa_cons (pv 4) pa_nil))) (fun _ _ => rfl)))
      (pss_one (ps_expr (pe_bm PySem.F.plainAttrs_list PySem.F.slot_list_append PySem.F.type_list_append mt_append (pv 2) (pa_cons (pe_ifExp (pt_cmpR op_isN (pv 5) pe_non (nomark _)) pe_int (pe_op op_add (pe_op op_mul pe_int (pe_ix (ixT (K := K)) (pv 5) pe_int (fun _ _ => rfl))) (pe_callTy call_int1 (by rfl) T.n_int (by decide +kernel) (pa_cons (pe_ix (ixT (K := K)) (pv 5) pe_int (fun _ _ => rfl)) pa_nil)))) pa_nil))))))))
      (pss_one (ps_ret (pe_callTy (tupK (K := K)) (by rfl) T.n_tuple (by decide +kernel) (pa_cons (pv 2) pa_nil)))))), ?_⟩
  have hn : (0 : Int) ≤ (n : Int) ∧ (n : Int) ≤ 100000 := ⟨by omega, by omega⟩
  have hnn : n * n ≤ 1000 := by
    have : n * n ≤ 4 * 4 := Nat.mul_le_mul hn4 hn4
    omega
  refine q_asgL (el_lst ea_nil (by show 0 ≤ 100000; decide)) fun l H1 hl e1 h1l => ?_
  refine q_forR1 (ea_cons (ev_var rfl) ea_nil) hn (fun i σ H' => ∃ y3 y4 y5, σ = [some (.ref d), some (.int n), some (.ref l), y3, y4, y5] ∧ H' l = some (.lst ((zv n S).take (i * n))) ∧ Ex H H') (fun H2 e2 => ⟨none, none, none, rfl, by rw [e2 l _ h1l, Nat.zero_mul]; rfl, e1.trans e2⟩) (fun i σ H2 hi hP => ?_) (fun σ H2 hP => ?_)
  · obtain ⟨y3, y4, y5, rfl, h2l, e2⟩ := hP
    have hi : i < n := by omega
    refine s_forR1 (ea_cons (ev_var rfl) ea_nil) hn (fun j σ H' => ∃ y4 y5, σ = [some (.ref d), some (.int n), some (.ref l), some (.int i), y4, y5] ∧ H' l = some (.lst ((zv n S).take (i * n + j))) ∧ Ex H H') (fun H3 e3 => ⟨y4, y5, rfl, by rw [e3 l _ h2l]; rfl, e2.trans e3⟩) (fun j σ H3 hj hP => ?_) (fun σ H3 hP => ?_)
    · obtain ⟨y4, y5, rfl, h3l, e3⟩ := hP
      have hj : j < n := by omega
      have hp := Zm.place_lt hi hj
      refine q_asgB (eb_get (ev_var rfl) (ev_var rfl) (ev_var rfl) (hd.ex e3) hi hj) fun z H4 e4 hz => ?_
      refine s_app (xs := (zv n S).take (i * n + j)) (v := .int (enc (S i j))) (e4 l _ h3l) (ev_var rfl) (ev_if (b := (S i j).isNone) (et_test (ev_is0 (eb_var rfl hz))) (fun hb => ?_) fun hb => ?_) (by rw [List.length_take, zv_len]; omega) fun H5 e5 => ⟨_, _, rfl, ?_, Ex.mut ((e3.trans e4).trans e5) hl⟩
      · cases hS : S i j with
        | none => exact ev_c
        | some b =>
          rw [hS] at hb
          cases hb
      · cases hS : S i j with
        | none =>
          rw [hS] at hb
          cases hb
        | some b =>
          rw [hS] at hz
          refine ev_is (ev_op (ev_op ev_c (ev_num (eb_var rfl hz)) (rv_I two_small)) (ev_int1b (ev_flag (eb_var rfl hz))) rv_I0) ?_
          rfl
      · rw [upd_same]
        congr 2
        have : (zv n S)[i * n + j]? = some (.int (enc (S i j))) := zv_get hi hj
        rw [show i * n + (j + 1) = i * n + j + 1 by omega, List.take_add_one, this]
        rfl
    · obtain ⟨y4, y5, rfl, h3l, e3⟩ := hP
      refine ⟨_, _, _, rfl, ?_, e3⟩
      rw [h3l, Nat.succ_mul]
      rfl
  · obtain ⟨y3, y4, y5, rfl, h2l, e2⟩ := hP
    have h2l : H2 l = some (.lst ((zv n S).take (n * n))) := h2l
    rw [List.take_of_length_le (by rw [zv_len]; exact Nat.le_refl _)] at h2l
    exact s_retU (eu_tupL (ev_var rfl) (sq_of h2l)) fun p H3 hp e3 h3 => k p H3 (fresh_back e2 hp) (e2.trans e3) h3
/-! ### square -/
theorem dec_if (z : Int) : Zm.dec z = if z = 1000000 then none else some (z / 2, decide (z % 2 = 1)) := rfl
def spSquare (K : PySem.W.Frag) : Sp := fun vs H Q _ => ∃ (a : Addr) (n : Nat) (S : Sq), vs = [.ref a, .int n] ∧ SqT K H a (zv n S) ∧ (∀ i j, i < n → j < n → Zm.Cl1 (S i j)) ∧ 1 ≤ n ∧ n ≤ 4 ∧ RetD K n S H Q
theorem c__law_square (T : Tx K mg aU aC) (D : Df K mg "_law_square" s__law_square ["zone", "many"]) : Cl P w K mg base 1 "_law_square" (spSquare K) := by
  refine D.cl sc__law_square (fun vs H Q E h => by obtain ⟨_, _, _, rfl, _⟩ := h; rfl) (fun f cdv A outer s H vs Q E hr h => ?_)
  obtain ⟨a, n, S, rfl, ha, hcl, hn1, hn4, k⟩ := h
  refine ⟨_, (pss_cons (ps_set (i := 2) sc__law_square.nd rfl (.inl rfl) pe_dnewT)
      (pss_cons (ps_for PassesOwn.never rfl (pi_range1 (by rfl) T.n_range (pa_cons (pv 1) pa_nil)) (pg_name (i := 3) sc__law_square.nd rfl (.inl rfl)) (pss_one (ps_for PassesOwn.never rfl (pi_range1 (by rfl) T.n_range (pa_cons (pv 1) pa_nil)) (pg_name (i := 4) sc__law_square.nd rfl (.inl rfl)) (pss_cons (ps_set (i := 5) sc__law_square.nd rfl (.inl rfl) (pe_ix (ixT (K := K)) (pv 0) (pe_op op_add (pe_op op_mul (pv 1) (pv 3)) (pv 4)) (fun _ _ => rfl)))
      (pss_one (ps_dput (hu_of hr) (pv 2) (pe_tup (pa_cons (pv 3) (pa_cons (pv 4) pa_nil))) (pe_ifExp (pt_cmpR op_eq (pv 5) pe_int (nomark _)) pe_non (pe_tup (pa_cons (pe_op op_fdiv (pv 5) pe_int) (pa_cons (pe_cmpR op_eq (pe_op op_mod (pv 5) pe_int) pe_int (nomark _)) pa_nil)))) rfl))))))
      (pss_one (ps_ret (pv 2))))), ?_⟩
  have hn : (0 : Int) ≤ (n : Int) ∧ (n : Int) ≤ 100000 := ⟨by omega, by omega⟩
  have hnn : n * n ≤ 1000 := by
    have : n * n ≤ 4 * 4 := Nat.mul_le_mul hn4 hn4
    omega
  have mul : ∀ i : Nat, i < n → CMul (n : Int) (i : Int) := fun i hi => .inl ⟨by omega, by omega⟩
  refine q_dnew (K := K) (n := n) (S := S) fun l H1 hl e1 h1l => ?_
  refine q_forR1 (ea_cons (ev_var rfl) ea_nil) hn (fun i σ H' => ∃ y3 y4 y5, σ = [some (.ref a), some (.int n), some (.ref l), y3, y4, y5] ∧ SqM K H' l n (i * n) S ∧ Ex H H') (fun H2 e2 => ⟨none, none, none, rfl, by rw [Nat.zero_mul]; exact h1l.ex e2, e1.trans e2⟩) (fun i σ H2 hi hP => ?_) (fun σ H2 hP => ?_)
  · obtain ⟨y3, y4, y5, rfl, h2l, e2⟩ := hP
    have hi : i < n := by omega
    refine s_forR1 (ea_cons (ev_var rfl) ea_nil) hn (fun j σ H' => ∃ y4 y5, σ = [some (.ref a), some (.int n), some (.ref l), some (.int i), y4, y5] ∧ SqM K H' l n (i * n + j) S ∧ Ex H H') (fun H3 e3 => ⟨y4, y5, rfl, h2l.ex e3, e2.trans e3⟩) (fun j σ H3 hj hP => ?_) (fun σ H3 hP => ?_)
    · obtain ⟨y4, y5, rfl, h3l, e3⟩ := hP
      have hj : j < n := by omega
      have hp := Zm.place_lt hi hj
      have hde := Zm.dec_enc (hcl i j hi hj)
      refine q_asg (v := .int (enc (S i j))) (ev_ixVT (ev_var rfl) (ev_op (ev_op (ev_var rfl) (ev_var rfl) (rv_I (mul i hi))) (ev_var rfl) rv_I0) (ex_t e3 ha) (zv_at hi hj (by rw [Int.mul_comm]))) fun H4 e4 => ?_
      refine s_dadd (eb_if (b := decide (enc (S i j) = 1000000)) (et_is (et_test (ev_op (ev_var rfl) ev_c (rv_eq rfl))) (by rw [int_eq])) (fun hb => ?_) fun hb => ?_) (ev_var rfl) (ev_var rfl) (ev_var rfl) (h3l.ex e4) (by omega) hj fun H5 e5 h5 => ⟨_, _, rfl, h5, Eb.ex (e3.trans e4) hl e5⟩
      · refine eb_is eb_non ?_
        rw [← hde, dec_if, if_pos (of_decide_eq_true hb)]
      · refine eb_is (eb_tup (ev_op (ev_var rfl) ev_c (rv_I ⟨by decide, by decide⟩)) (ev_op (ev_op (ev_var rfl) ev_c (rv_I (by decide))) ev_c (rv_eq rfl))) ?_
        rw [int_eq]
        have e := hde
        rw [dec_if, if_neg (of_decide_eq_false hb)] at e
        exact e
    · obtain ⟨y4, y5, rfl, h3l, e3⟩ := hP
      refine ⟨_, _, _, rfl, ?_, e3⟩
      rw [Nat.succ_mul]
      exact h3l
  · obtain ⟨y3, y4, y5, rfl, h2l, e2⟩ := hP
    have h2l : SqD K H2 l n S := h2l
    exact s_ret (ev_var rfl) fun H3 e3 => k l H3 hl (e2.trans e3) (h2l.ex e3)
/-! ### later, put back -/
def spLLater (K : PySem.W.Frag) : Sp := fun vs H Q _ => ∃ (d : Addr) (n : Nat) (S : Sq), vs = [.ref d, .int n] ∧ SqD K H d n S ∧ 1 ≤ n ∧ n ≤ 4 ∧ RetD K n (Zm.lat S) H Q
theorem c__law_later (T : Tx K mg aU aC) (D : Df K mg "_law_later" s__law_later ["square", "many"]) : Cl P w K mg base 1 "_law_later" (spLLater K) := by
  refine D.cl sc__law_later (fun vs H Q E h => by obtain ⟨_, _, _, rfl, _⟩ := h; rfl) (fun f cdv A outer s H vs Q E hr h => ?_)
  obtain ⟨d, n, S, rfl, hd, hn1, hn4, k⟩ := h
  refine ⟨_, (pss_cons (ps_set (i := 2) sc__law_later.nd rfl (.inl rfl) (pe_callTy (call_dictPT rfl (hu64 hr)) (by rfl) T.n_dict (by decide +kernel) (pa_cons (pe_callTy (call_list_itemsT rfl) (by rfl) T.n_list (by decide +kernel) (pa_cons (pe_bm0 PySem.F.plainAttrs_dict PySem.F.slot_dict_items PySem.F.type_dict_items mt_itemsT (pv 0)) pa_nil)) pa_nil)))
      (pss_cons (ps_for PassesOwn.never rfl (pi_range2 (by rfl) T.n_range (pa_cons pe_int (pa_cons (pv 1) pa_nil))) (pg_name (i := 3) sc__law_later.nd rfl (.inl rfl)) (pss_one (ps_dput (hu_of hr) (pv 2) (pe_tup (pa_cons (pv 3) (pa_cons pe_int pa_nil))) pe_non rfl)))
      (pss_one (ps_ret (pv 2))))), ?_⟩
  have hnn : n * n ≤ 1000 := by
    have : n * n ≤ 4 * 4 := Nat.mul_le_mul hn4 hn4
    omega
  refine q_copy (ev_var rfl) hd fun l H1 hl e1 h1l => ?_
  refine q_forR2 (lo := 1) (n := (n : Int)) (ea_cons ev_c (ea_cons (ev_var rfl) ea_nil)) ⟨by omega, by omega, by omega, by omega⟩ (fun m σ H2 => ∃ y, σ = [some (.ref d), some (.int n), some (.ref l), y] ∧ SqD K H2 l n (Zm.latTo m S) ∧ Ex H H2) (fun H2 e2 => ⟨none, rfl, by rw [Zm.latTo_zero]; exact h1l.ex e2, e1.trans e2⟩) (fun m σ H2 hm hP => ?_) (fun σ H2 hP => ?_)
  · obtain ⟨y, rfl, h2l, e2⟩ := hP
    have hm1 : 1 + m < n := by omega
    refine s_dput (i := 1 + m) (j := 0) (b := none) eb_non (ev_var rfl) (ev_is (ev_var rfl) (congrArg V.int (by simp))) ev_c h2l (Zm.place_lt hm1 (by omega)) hnn (by omega) fun H3 e3 h3 => ⟨_, rfl, ?_, Eb.ex e2 hl e3⟩
    rw [← Zm.latTo_succ]
    exact h3
  · obtain ⟨y, rfl, h2l, e2⟩ := hP
    exact s_ret (ev_var rfl) fun H3 e3 => k l H3 hl (e2.trans e3) ((h2l.ex e3).congr (Zm.latTo_all (n := n) (m := ((n : Int) - 1).toNat) S (by omega)))
/-! ### free -/
def spFree (K : PySem.W.Frag) : Sp := fun vs H Q _ => ∃ n : Nat, vs = [.int n] ∧ 1 ≤ n ∧ n ≤ 4 ∧ RetD K n freeS H Q
theorem c__law_free (T : Tx K mg aU aC) (D : Df K mg "_law_free" s__law_free ["many"]) : Cl P w K mg base 1 "_law_free" (spFree K) := by
  refine D.cl sc__law_free (fun vs H Q E h => by obtain ⟨_, rfl, _⟩ := h; rfl) (fun f cdv A outer s H vs Q E hr h => ?_)
  obtain ⟨n, rfl, hn1, hn4, k⟩ := h
  refine ⟨_, (pss_cons (ps_set (i := 1) sc__law_free.nd rfl (.inl rfl) pe_dnewT)
      (pss_cons (ps_for PassesOwn.never rfl (pi_range1 (by rfl) T.n_range (pa_cons (pv 0) pa_nil)) (pg_name (i := 2) sc__law_free.nd rfl (.inl rfl)) (pss_one (ps_for PassesOwn.never rfl (pi_range1 (by rfl) T.n_range (pa_cons (pv 0) pa_nil)) (pg_name (i := 3) sc__law_free.nd rfl (.inl rfl)) (pss_one (ps_dput (hu_of hr) (pv 1) (pe_tup (pa_cons (pv 2) (pa_cons (pv 3) pa_nil))) (pe_ifExp (pt_cmpR (inK (K := K)) (pv 2) (pe_tup (pa_cons pe_int (pa_cons (pv 3) pa_nil))) (by with_unfolding_all rfl)) (pe_tup (pa_cons pe_int (pa_cons pe_bl pa_nil))) pe_non) rfl)))))
      (pss_one (ps_ret (pv 1))))), ?_⟩
  have hn : (0 : Int) ≤ (n : Int) ∧ (n : Int) ≤ 100000 := ⟨by omega, by omega⟩
  have hnn : n * n ≤ 1000 := by
    have : n * n ≤ 4 * 4 := Nat.mul_le_mul hn4 hn4
    omega
  refine q_dnew (K := K) (n := n) (S := freeS) fun l H1 hl e1 h1l => ?_
  refine q_forR1 (ea_cons (ev_var rfl) ea_nil) hn (fun i σ H' => ∃ y3 y4, σ = [some (.int n), some (.ref l), y3, y4] ∧ SqM K H' l n (i * n) freeS ∧ Ex H H') (fun H2 e2 => ⟨none, none, rfl, by rw [Nat.zero_mul]; exact h1l.ex e2, e1.trans e2⟩) (fun i σ H2 hi hP => ?_) (fun σ H2 hP => ?_)
  · obtain ⟨y3, y4, rfl, h2l, e2⟩ := hP
    have hi : i < n := by omega
    refine s_forR1 (ea_cons (ev_var rfl) ea_nil) hn (fun j σ H' => ∃ y4, σ = [some (.int n), some (.ref l), some (.int i), y4] ∧ SqM K H' l n (i * n + j) freeS ∧ Ex H H') (fun H3 e3 => ⟨y4, rfl, h2l.ex e3, e2.trans e3⟩) (fun j σ H3 hj hP => ?_) (fun σ H3 hP => ?_)
    · obtain ⟨y4, rfl, h3l, e3⟩ := hP
      have hj : j < n := by omega
      have hp := Zm.place_lt hi hj
      have ein : inV (.int (i : Int)) [.int 0, .int (j : Int)] = decide (i = 0 ∨ i = j) := by
        simp only [inV, eqV, List.any_cons, List.any_nil, Bool.or_false, Bool.decide_or]
        have q1 : ((0 : Int) == (i : Int)) = decide (i = 0) := by
          by_cases z : i = 0
          · subst z
            rfl
          · rw [decide_eq_false z]
            exact beq_eq_false_iff_ne.mpr (by omega)
        have q2 : ((j : Int) == (i : Int)) = decide (i = j) := by
          by_cases z : i = j
          · subst z
            simp
          · rw [decide_eq_false z]
            exact beq_eq_false_iff_ne.mpr (by omega)
        first
        | rw [q1, q2]
        | (simp only [decide_eq_decide, Int.natCast_eq_zero]; congr 1 <;> simp <;> omega)
      refine s_dadd (eb_if (b := decide (i = 0 ∨ i = j)) (et_is (et_test (ev_inU (ev_var rfl) (eu_tup (ea_cons ev_c (ea_cons (ev_var rfl) ea_nil)) (by show 2 ≤ 100000; decide)) rfl rfl)) ein) (fun hb => ?_) fun hb => ?_) (ev_var rfl) (ev_var rfl) (ev_var rfl) h3l (by omega) hj fun H5 e5 h5 => ⟨_, rfl, h5, Eb.ex e3 hl e5⟩
      · refine eb_is (eb_tup ev_c ev_c) ?_
        unfold freeS
        rw [if_pos (of_decide_eq_true hb)]
        rfl
      · refine eb_is eb_non ?_
        unfold freeS
        rw [if_neg (of_decide_eq_false hb)]
    · obtain ⟨y4, rfl, h3l, e3⟩ := hP
      refine ⟨_, _, rfl, ?_, e3⟩
      rw [Nat.succ_mul]
      exact h3l
  · obtain ⟨y3, y4, rfl, h2l, e2⟩ := hP
    have h2l : SqD K H2 l n freeS := h2l
    exact s_ret (ev_var rfl) fun H3 e3 => k l H3 hl (e2.trans e3) (h2l.ex e3)
end
end Zb
set_option Elab.async false
set_option linter.all false
set_option maxRecDepth 100000
set_option maxHeartbeats 4000000
namespace Zb
open PySem PySem.Spec PyProof.Rows L2 L2.DX Zg Evl
open StX (pa_star tStar)
open RZ (pi_zipA iZipA ItzT)
open Zm (sumE Sq B zl enc dec fw neg Up both less at3 mids rows cols Edge gmin gall EdgeOk Zn NonNeg Clo)

section
variable {K : PySem.W.Frag} {σ : L2.St} {H H' : Hp} {ta tb tc td te tv tx : TE} {t u : TT} {x y z v : V} {r : R2} {D : Ends} {tu tw tz : TS}
/-- a new pair, a bound: both put to names -/
theorem s_parUB {i j : Nat} {vs : List V} {b : B} (ha : EvU ta σ H vs) (hb : EvB K tb σ H b) (k : ∀ p w H1, H p = none → Ex H H1 → H1 p = some (.tup vs) → VB K H1 w b → D.nx ((σ.set i (some (.ref p))).set j (some w)) H1) :
    tPar i j (tCons ta (tCons tb tNil)) D σ H :=
  ha H (Ex.refl H) _ fun p H1 hp e1 h1 => hb H1 e1 _ fun w H2 e2 h2 => ⟨_, _, rfl, k p w H2 hp (e1.trans e2) (e2 p _ h1) h2⟩
theorem s_parTB {i j : Nat} {vs : List V} {b : B} {ta : TA} (ha : EvA ta σ H vs) (hl : vs.length ≤ 100000) (hb : EvB K tb σ H b) (k : ∀ p w H1, H p = none → Ex H H1 → H1 p = some (.tup vs) → VB K H1 w b → D.nx ((σ.set i (some (.ref p))).set j (some w)) H1) :
    tPar i j (tCons (tTup ta) (tCons tb tNil)) D σ H := s_parUB (eu_tup ha hl) hb k
theorem q_parTB {i j : Nat} {vs : List V} {b : B} {ta : TA} (ha : EvA ta σ H vs) (hl : vs.length ≤ 100000) (hb : EvB K tb σ H b) (k : ∀ p w H1, H p = none → Ex H H1 → H1 p = some (.tup vs) → VB K H1 w b → tz D ((σ.set i (some (.ref p))).set j (some w)) H1) :
    tSeq (tPar i j (tCons (tTup ta) (tCons tb tNil))) tz D σ H := s_parTB (D := { D with nx := tz D }) ha hl hb k
/-- square[a, b], square[c, d] = two bounds -/
theorem s_dput2 {d : Addr} {n i j i2 j2 : Nat} {S : Sq} {b c : B} {tc1 tc2 td1 tg1 tg2 : TE} (hb : EvB K ta σ H b) (hc : EvB K tb σ H c)
    (hd : ∀ H1, Ev td1 σ H1 (.ref d)) (h1 : ∀ H1, Ev tc1 σ H1 (.int (i : Int))) (h2 : ∀ H1, Ev tc2 σ H1 (.int (j : Int))) (h3 : ∀ H1, Ev tg1 σ H1 (.int (i2 : Int))) (h4 : ∀ H1, Ev tg2 σ H1 (.int (j2 : Int)))
    (hs : SqD K H d n S) (hi : i < n) (hj : j < n) (hi2 : i2 < n) (hj2 : j2 < n) (hn : n * n ≤ 1000) (k : ∀ H1, Eb d H H1 → SqD K H1 d n (Zm.put (Zm.put S i j b) i2 j2 c) → D.nx σ H1) :
    tAsg (tTup (tCons ta (tCons tb tNil))) (gTup K 2 (gCons (gSub td1 (tTup (tCons tc1 (tCons tc2 tNil))) rSetD) (gCons (gSub td1 (tTup (tCons tg1 (tCons tg2 tNil))) rSetD) gNil))) D σ H :=
  hb H (Ex.refl H) _ fun v H1 e1 hv => hc H1 e1 _ fun w H2 e2 hw => ⟨by show 2 ≤ sizeLine; exact sz_of (by decide), fun p hp => ⟨p, _, rfl, st_of upd_same, rfl, _, _, rfl, by
    refine hd _ _ (Ex.refl _) _ fun H3 e3 => eu_tup (ea_cons (h1 _) (ea_cons (h2 _) ea_nil)) (by show 2 ≤ 100000; decide) H3 (Ex.refl _) _ fun a H4 _ e4 h4a => ?_
    have e24 := ((Ex.new hp (o := .tup [v, w])).trans e3).trans e4
    have e04 := (e1.trans e2).trans e24
    obtain ⟨kvs, q1, q2, q3⟩ := (hs.ex e04).put (Zm.place_lt hi hj) hj (hv.ex (e2.trans e24))
    refine ⟨d, _, rfl, .inr ⟨kvs, [.inl (i : Int), .inl (j : Int)], a, q1, rfl, h4a, sz_lt (by omega), rfl⟩, _, _, rfl, ?_⟩
    have b4 : Eb d H4 (upd H4 d (.dT (putK kvs [.inl (i : Int), .inl (j : Int)] v))) := (Eb.refl d H4).upd
    have hw4 : VB K (upd H4 d (.dT (putK kvs [.inl (i : Int), .inl (j : Int)] v))) w c := (hw.ex e24).eb b4 q1 (fun _ z => by cases z) (fun _ _ z => by cases z)
    refine hd _ _ (Ex.refl _) _ fun H5 e5 => eu_tup (ea_cons (h3 _) (ea_cons (h4 _) ea_nil)) (by show 2 ≤ 100000; decide) H5 (Ex.refl _) _ fun a2 H6 _ e6 h6a => ?_
    obtain ⟨kvs2, r1, r2, r3⟩ := (q3.ex (e5.trans e6)).put (Zm.place_lt hi2 hj2) hj2 (hw4.ex (e5.trans e6))
    exact ⟨d, _, rfl, .inr ⟨kvs2, [.inl (i2 : Int), .inl (j2 : Int)], a2, r1, rfl, h6a, sz_lt (by omega), rfl⟩, rfl, k _ (((Eb.of e04).trans b4).trans (Eb.of (e5.trans e6))).upd r3⟩⟩⟩
end
theorem gmin_put2 {S : Sq} {e : Edge} : Zm.put S e.i e.j (if less (some e.b) (S e.i e.j) then some e.b else S e.i e.j) = Zm.gmin S e := by
  unfold Zm.gmin
  by_cases q : less (some e.b) (S e.i e.j) = true
  · rw [if_pos q, if_pos q]
  · rw [if_neg q, if_neg q]
    funext a b
    by_cases z : a = e.i ∧ b = e.j
    · rw [z.1, z.2, Zm.put_same]
    · rw [Zm.put_ne z]
theorem opS_le (g : Zm.Gi) : inV (.str (opS g)) [.str "<=", .str ">="] = g.inc := by
  unfold opS
  cases g.up <;> cases g.inc <;> decide
theorem opS_dn (g : Zm.Gi) : inV (.str (opS g)) [.str ">", .str ">="] = !g.up := by
  unfold opS
  cases g.up <;> cases g.inc <;> decide
theorem opS_ge (g : Zm.Gi) (h : g.up = false) : decide (V.str (opS g) = V.str ">=") = g.inc := by
  unfold opS
  rw [h]
  cases g.inc <;> decide
section
variable {P : Program} {w : World} {K : PySem.W.Frag} {mg : Str → Option Value} {base : Heap} {aU aC : Addr}
/-! ### kept -/
def spKept (K : PySem.W.Frag) : Sp := fun vs H Q _ => ∃ (d g : Addr) (n : Nat) (S : Sq) (gs : List Zm.Gi), vs = [.ref d, .int n, .ref g] ∧ SqD K H d n S ∧ RwT K H g (gs.map gvs) ∧ (∀ g ∈ gs, Zm.GiOk n g) ∧ 1 ≤ n ∧ n ≤ 4 ∧ gs.length ≤ 1000 ∧
  RetDX K (neg n (fw n (gall S (gs.map Zm.Gi.edge)))) n (fw n (gall S (gs.map Zm.Gi.edge))) H Q
theorem c__law_kept (T : Tx K mg aU aC) (D : Df K mg "_law_kept" s__law_kept ["square", "many", "guard"]) (c__law_is_less : Cl P w K mg base 1 "_law_is_less" (spLess K)) (c__law_tight : Cl P w K mg base 2 "_law_tight" (spLTight K)) : Cl P w K mg base 3 "_law_kept" (spKept K) := by
  refine D.cl sc__law_kept (fun vs H Q E h => by obtain ⟨_, _, _, _, _, rfl, _⟩ := h; rfl) (fun f cdv A outer s H vs Q E hr h => ?_)
  obtain ⟨d, g, n, S, gs, rfl, hd, hg, hok, hn1, hn4, hgl, k⟩ := h
  obtain ⟨as, hg1, hg2⟩ := hg
  refine ⟨_, (pss_cons (ps_set (i := 3) sc__law_kept.nd rfl (.inl rfl) (pe_callTy (call_dictPT rfl (hu64 hr)) (by rfl) T.n_dict (by decide +kernel) (pa_cons (pe_callTy (call_list_itemsT rfl) (by rfl) T.n_list (by decide +kernel) (pa_cons (pe_bm0 PySem.F.plainAttrs_dict PySem.F.slot_dict_items PySem.F.type_dict_items mt_itemsT (pv 0)) pa_nil)) pa_nil)))
      (pss_cons (ps_for PassesOwn.never rfl (pi_tup (pv 2)) (tgK (K := K) (n := 3) rfl (pgs_cons (pg_name (i := 4) sc__law_kept.nd rfl (.inl rfl)) (pgs_cons (pg_name (i := 5) sc__law_kept.nd rfl (.inl rfl)) (pgs_cons (pg_name (i := 6) sc__law_kept.nd rfl (.inl rfl)) pgs_nil)))) (pss_cons (ps_par (i := 7) (j := 8) rfl sc__law_kept.nd rfl rfl (by decide) rfl rfl (pa_cons (pe_tup (pa_cons (pe_op op_add (pv 4) pe_int) (pa_cons pe_int pa_nil))) (pa_cons (pe_tup (pa_cons (pv 6) (pa_cons (pe_cmpR (inK (K := K)) (pv 5) (pe_tup (pa_cons pe_str (pa_cons pe_str pa_nil))) (by with_unfolding_all rfl)) pa_nil))) pa_nil)) rfl)
      (pss_cons (ps_if (pt_cmpR (inK (K := K)) (pv 5) (pe_tup (pa_cons pe_str (pa_cons pe_str pa_nil))) (by with_unfolding_all rfl)) (pss_one (ps_par (i := 7) (j := 8) rfl sc__law_kept.nd rfl rfl (by decide) rfl rfl (pa_cons (pe_tup (pa_cons pe_int (pa_cons (pe_op op_add (pv 4) pe_int) pa_nil))) (pa_cons (pe_tup (pa_cons (pe_op op_sub pe_int (pv 6)) (pa_cons (pe_cmpR op_eq (pv 5) pe_str (nomark _)) pa_nil))) pa_nil)) rfl)) pss_nil)
      (pss_one (ps_dput (hu_of hr) (pv 3) (pv 7) (pe_ifExp (pt_val (pe_cl c__law_is_less hr (by decide) (by rfl) (pa_cons (pv 8) (pa_cons (pe_dget (hu_of hr) (pv 3) (pv 7) (fun _ _ => rfl)) pa_nil)))) (pv 8) (pe_dget (hu_of hr) (pv 3) (pv 7) (fun _ _ => rfl))) rfl)))))
      (pss_one (ps_ret (pe_cl c__law_tight hr (by decide) (by rfl) (pa_cons (pv 3) (pa_cons (pv 1) pa_nil))))))), ?_⟩
  have hnn : n * n ≤ 1000 := by
    have : n * n ≤ 4 * 4 := Nat.mul_le_mul hn4 hn4
    omega
  refine q_copy (ev_var rfl) hd fun l H1 hl e1 h1l => ?_
  refine q_forT (ev_var rfl) (ex_t e1 hg1) (fun m σ H2 => ∃ y4 y5 y6 y7 y8, σ = [some (.ref d), some (.int n), some (.ref g), some (.ref l), y4, y5, y6, y7, y8] ∧ Ex H H2 ∧ SqD K H2 l n (gall S ((gs.take m).map Zm.Gi.edge))) (fun H2 e2 => ⟨none, none, none, none, none, rfl, e1.trans e2, h1l.ex e2⟩) (fun m σ H2 _ hP => ?_) (fun m x σ H2 hx hP => ?_) (fun σ H2 hP => ?_)
  · obtain ⟨_, _, _, _, _, _, e2, _⟩ := hP
    exact ex_t e2 hg1
  · obtain ⟨y4, y5, y6, y7, y8, rfl, e2, h2l⟩ := hP
    rw [List.getElem?_map] at hx
    obtain ⟨q, hq, rfl⟩ := Option.map_eq_some_iff.mp hx
    have hml : m < gs.length := by
      have h3 := (List.getElem?_eq_some_iff.mp hq).1
      rw [hg2.1, List.length_map] at h3
      exact h3
    have hgm : gs[m]? = some gs[m] := List.getElem?_eq_getElem hml
    generalize hgi : gs[m] = gi at hgm
    have hgo : Zm.GiOk n gi := hok gi (List.mem_of_getElem? hgm)
    have hrow : SqT K H2 q (gvs gi) := (hg2.ex e2).2 m q _ hq (by rw [List.getElem?_map, hgm]; rfl)
    refine g_unp3 hrow ?_
    generalize hG : gall S ((gs.take m).map Zm.Gi.edge) = G at h2l
    have hE := hgo.edge
    have hEi : gi.edge.i < n ∧ gi.edge.j < n := by
      rcases hE with ⟨p1, p2, p3, _, _⟩ | ⟨p1, p2, p3, _, _⟩ <;> exact ⟨by omega, by omega⟩
    have fin : ∀ (pr : Addr) (vb : V) (H4 : Hp), Ex H2 H4 → H4 pr = some (.tup [.int (gi.edge.i : Int), .int (gi.edge.j : Int)]) → VB K H4 vb (some gi.edge.b) →
        sDPut (tVar 3) (tVar 7) (tIf (tB (tCall (spLess K) [] E0 (tCons (tVar 8) (tCons (tDGet (tVar 3) (tVar 7)) tNil)))) (tVar 8) (tDGet (tVar 3) (tVar 7))) { nx := fun σ H' => ∃ y4 y5 y6 y7 y8, σ = [some (.ref d), some (.int n), some (.ref g), some (.ref l), y4, y5, y6, y7, y8] ∧ Ex H H' ∧ SqD K H' l n (gall S ((gs.take (m + 1)).map Zm.Gi.edge)), rt := Q }
          [some (.ref d), some (.int n), some (.ref g), some (.ref l), some (.int (gi.c : Int)), some (.str (opS gi)), some (.int (gi.k : Int)), some (.ref pr), some vb] H4 := fun pr vb H4 e4 hpr hvb => by
      have hs4 := h2l.ex e4
      refine s_dputV (b := if less (some gi.edge.b) (G gi.edge.i gi.edge.j) then some gi.edge.b else G gi.edge.i gi.edge.j) (eb_if (b := less (some gi.edge.b) (G gi.edge.i gi.edge.j)) (et_B (ev_less (eb_var rfl hvb) (eb_getV (ev_var rfl) (ev_var rfl) hpr hs4 hEi.1 hEi.2))) (fun hb => ?_) fun hb => ?_) (ev_var rfl) (ev_var rfl) hpr hs4 (Zm.place_lt hEi.1 hEi.2) hnn hEi.2 fun H5 e5 h5 => ⟨_, _, _, _, _, rfl, Eb.ex (e2.trans e4) hl e5, ?_⟩
      · rw [if_pos hb]
        exact eb_var rfl hvb
      · rw [if_neg (by rw [hb]; decide)]
        exact eb_getV (ev_var rfl) (ev_var rfl) hpr hs4 hEi.1 hEi.2
      · rw [gmin_put2, ← hG] at h5
        rw [List.take_add_one, hgm]
        unfold gall at h5 ⊢
        rw [List.map_append, List.foldl_append]
        exact h5
    refine q_parTB (K := K) (vs := [.int ((gi.c : Int) + 1), .int 0]) (b := some ((gi.k : Int), gi.inc)) (ea_cons (ev_op (ev_var rfl) ev_c rv_I0) (ea_cons ev_c ea_nil)) (by show 2 ≤ 100000; decide)
      (eb_tup (ev_var rfl) (ev_is (ev_inU (ev_var rfl) (eu_tup (ea_cons ev_c (ea_cons ev_c ea_nil)) (by show 2 ≤ 100000; decide)) rfl rfl) (congrArg V.bl (opS_le gi)))) fun pr vb H3 _ e3 hpr hvb => ?_
    refine q_if (b := !gi.up) (et_is (et_test (ev_inU (ev_var rfl) (eu_tup (ea_cons ev_c (ea_cons ev_c ea_nil)) (by show 2 ≤ 100000; decide)) rfl rfl)) (opS_dn gi)) (fun hb H4 e4 => ?_) fun hb H4 e4 => ?_
    · have hup : gi.up = false := by simpa using hb
      refine s_parTB (K := K) (vs := [.int 0, .int ((gi.c : Int) + 1)]) (b := some (0 - (gi.k : Int), gi.inc)) (ea_cons ev_c (ea_cons (ev_op (ev_var rfl) ev_c rv_I0) ea_nil)) (by show 2 ≤ 100000; decide)
        (eb_tup (ev_op ev_c (ev_var rfl) rv_I0) (ev_is (ev_op (ev_var rfl) ev_c (rv_eq rfl)) (congrArg V.bl (opS_ge gi hup)))) fun pr2 vb2 H5 _ e5 hpr2 hvb2 => ?_
      refine fin pr2 vb2 H5 ((e3.trans e4).trans e5) ?_ ?_
      · rw [hpr2]
        unfold Zm.Gi.edge
        rw [hup, if_neg Bool.false_ne_true]
        simp
      · have : gi.edge.b = (0 - (gi.k : Int), gi.inc) := by
          unfold Zm.Gi.edge
          rw [hup, if_neg Bool.false_ne_true]
          simp
        rw [this]
        exact hvb2
    · have hup : gi.up = true := by simpa using hb
      refine fin pr vb H4 (e3.trans e4) ?_ ?_
      · rw [e4 pr _ hpr]
        unfold Zm.Gi.edge
        rw [hup, if_pos rfl]
        simp
      · have : gi.edge.b = ((gi.k : Int), gi.inc) := by
          unfold Zm.Gi.edge
          rw [hup, if_pos rfl]
        rw [this]
        exact hvb.ex e4
  · obtain ⟨y4, y5, y6, y7, y8, rfl, e2, h2l⟩ := hP
    rw [List.length_map, hg2.1, List.length_map, List.take_length] at h2l
    exact s_retC (ea_cons (ev_var rfl) (ea_cons (ev_var rfl) ea_nil)) fun H3 e3 => ⟨l, n, _, rfl, h2l.ex e3, hn1, hn4, k.go (e2.trans e3)⟩
/-! ### put back -/
def spLBack (K : PySem.W.Frag) : Sp := fun vs H Q _ => ∃ (d p : Addr) (n : Nat) (S : Sq) (ps : List Nat), vs = [.ref d, .int n, .ref p] ∧ SqD K H d n S ∧ SqT K H p (ps.map fun i : Nat => V.int ((i : Nat) : Int)) ∧ (∀ i ∈ ps, i + 1 < n) ∧ 1 ≤ n ∧ n ≤ 4 ∧ RetD K n (Zm.sbAll S ps) H Q
theorem c__law_put_back (T : Tx K mg aU aC) (D : Df K mg "_law_put_back" s__law_put_back ["square", "many", "places"]) : Cl P w K mg base 1 "_law_put_back" (spLBack K) := by
  refine D.cl sc__law_put_back (fun vs H Q E h => by obtain ⟨_, _, _, _, _, rfl, _⟩ := h; rfl) (fun f cdv A outer s H vs Q E hr h => ?_)
  obtain ⟨d, p, n, S, ps, rfl, hd, hp, hps, hn1, hn4, k⟩ := h
  refine ⟨_, (pss_cons (ps_set (i := 3) sc__law_put_back.nd rfl (.inl rfl) (pe_callTy (call_dictPT rfl (hu64 hr)) (by rfl) T.n_dict (by decide +kernel) (pa_cons (pe_callTy (call_list_itemsT rfl) (by rfl) T.n_list (by decide +kernel) (pa_cons (pe_bm0 PySem.F.plainAttrs_dict PySem.F.slot_dict_items PySem.F.type_dict_items mt_itemsT (pv 0)) pa_nil)) pa_nil)))
      (pss_cons (ps_for PassesOwn.never rfl (pi_tup (pv 2)) (pg_name (i := 4) sc__law_put_back.nd rfl (.inl rfl)) (pss_cons (ps_set (i := 5) sc__law_put_back.nd rfl (.inl rfl) (pe_op op_add (pv 4) pe_int))
      (pss_one (ps_for PassesOwn.never rfl (pi_range1 (by rfl) T.n_range (pa_cons (pv 1) pa_nil)) (pg_name (i := 6) sc__law_put_back.nd rfl (.inl rfl)) (pss_one (ps_if (pt_cmpR op_ne (pv 6) (pv 5) (nomark _)) (pss_one (ps_asg (pe_tup (pa_cons (pe_dget (hu_of hr) (pv 3) (pe_tup (pa_cons pe_int (pa_cons (pv 6) pa_nil))) (fun _ _ => rfl)) (pa_cons (pe_dget (hu_of hr) (pv 3) (pe_tup (pa_cons (pv 6) (pa_cons pe_int pa_nil))) (fun _ _ => rfl)) pa_nil))) (tgK (K := K) (n := 2) rfl (pgs_cons (pg_sub (pv 3) (pe_tup (pa_cons (pv 5) (pa_cons (pv 6) pa_nil))) (set_dict (hu_of hr))) (pgs_cons (pg_sub (pv 3) (pe_tup (pa_cons (pv 6) (pa_cons (pv 5) pa_nil))) (set_dict (hu_of hr))) pgs_nil))))) pss_nil))))))
      (pss_one (ps_ret (pv 3))))), ?_⟩
  have hn : (0 : Int) ≤ (n : Int) ∧ (n : Int) ≤ 100000 := ⟨by omega, by omega⟩
  have hnn : n * n ≤ 1000 := by
    have : n * n ≤ 4 * 4 := Nat.mul_le_mul hn4 hn4
    omega
  refine q_copy (ev_var rfl) hd fun l H1 hl e1 h1l => ?_
  refine q_forT (ev_var rfl) (ex_t e1 hp) (fun m σ H2 => ∃ y4 y5 y6, σ = [some (.ref d), some (.int n), some (.ref p), some (.ref l), y4, y5, y6] ∧ Ex H H2 ∧ SqD K H2 l n (Zm.sbAll S (ps.take m))) (fun H2 e2 => ⟨none, none, none, rfl, e1.trans e2, h1l.ex e2⟩) (fun m σ H2 _ hP => ?_) (fun m x σ H2 hx hP => ?_) (fun σ H2 hP => ?_)
  · obtain ⟨_, _, _, _, e2, _⟩ := hP
    exact ex_t e2 hp
  · obtain ⟨y4, y5, y6, rfl, e2, h2l⟩ := hP
    rw [List.getElem?_map] at hx
    obtain ⟨q, hq, rfl⟩ := Option.map_eq_some_iff.mp hx
    have hqn : q + 1 < n := hps q (List.mem_of_getElem? hq)
    refine q_asg (v := .int ((q + 1 : Nat) : Int)) (ev_is (ev_op (ev_var rfl) ev_c rv_I0) (by simp)) fun H3 e3 => ?_
    refine s_forR1 (ea_cons (ev_var rfl) ea_nil) hn (fun o σ H4 => ∃ y6, σ = [some (.ref d), some (.int n), some (.ref p), some (.ref l), some (.int (q : Int)), some (.int ((q + 1 : Nat) : Int)), y6] ∧ Ex H H4 ∧ SqD K H4 l n (Zm.sbTo (q + 1) o (Zm.sbAll S (ps.take m)))) (fun H4 e4 => ⟨y6, rfl, (e2.trans e3).trans e4, by rw [Zm.sbTo_zero]; exact h2l.ex (e3.trans e4)⟩) (fun o σ H4 ho hP => ?_) (fun σ H4 hP => ?_)
    · obtain ⟨y6, rfl, e4, h4l⟩ := hP
      have ho : o < n := by omega
      have hne : (!decide (V.int (o : Int) = V.int ((q + 1 : Nat) : Int))) = !decide (o = q + 1) := by
        rw [int_eq]
        congr 1
        rw [decide_eq_decide]
        constructor <;> intro z <;> omega
      refine s_when (b := !decide (o = q + 1)) (et_is (et_test (ev_op (ev_var rfl) (ev_var rfl) (rv_ne rfl))) hne) (fun hb H5 e5 => ?_) (fun hb H5 e5 => ?_)
      · have hoq : o ≠ q + 1 := by simpa using hb
        have r1 : Zm.sbTo (q + 1) o (Zm.sbAll S (ps.take m)) 0 o = Zm.sbAll S (ps.take m) 0 o := Zm.sbTo_row _ (by omega) hoq
        have r2 : Zm.sbTo (q + 1) o (Zm.sbAll S (ps.take m)) o 0 = Zm.sbAll S (ps.take m) o 0 := Zm.sbTo_col _ (by omega) hoq
        have h5l := h4l.ex e5
        refine s_dput2 (eb_get (i := 0) (j := o) (ev_var rfl) ev_c (ev_var rfl) h5l (by omega) ho) (eb_get (i := o) (j := 0) (ev_var rfl) (ev_var rfl) ev_c h5l ho (by omega)) (fun _ => ev_var rfl) (fun _ => ev_var rfl) (fun _ => ev_var rfl) (fun _ => ev_var rfl) (fun _ => ev_var rfl) h5l hqn ho ho hqn hnn fun H6 e6 h6 => ⟨_, rfl, Eb.ex (e4.trans e5) hl e6, ?_⟩
        rw [r1, r2, Zm.sbTo_succ _ hoq] at h6
        exact h6
      · have hoq : o = q + 1 := by simpa using hb
        subst hoq
        refine ⟨_, rfl, e4.trans e5, ?_⟩
        rw [Zm.sbTo_same]
        exact h4l.ex e5
    · obtain ⟨y6, rfl, e4, h4l⟩ := hP
      refine ⟨_, _, _, rfl, e4, ?_⟩
      have e : Zm.sbAll S (ps.take (m + 1)) = Zm.sb (q + 1) (Zm.sbAll S (ps.take m)) := by
        unfold Zm.sbAll
        rw [List.take_add_one, hq, List.foldl_append]
        rfl
      rw [e]
      exact h4l.congr (Zm.sbTo_all (n := n) (a := q + 1) (Zm.sbAll S (ps.take m)))
  · obtain ⟨y4, y5, y6, rfl, e2, h2l⟩ := hP
    rw [List.length_map, List.take_length] at h2l
    exact s_ret (ev_var rfl) fun H3 e3 => k l H3 hl (e2.trans e3) (h2l.ex e3)
end
end Zb
set_option Elab.async false
set_option linter.all false
set_option maxRecDepth 100000
set_option maxHeartbeats 4000000
namespace Zb
open PySem PySem.Spec PyProof.Rows L2 L2.DX Zg Evl
open StX (pa_star tStar)
open RZ (pi_zipA iZipA ItzT)
open Zm (sumE Sq B zl enc dec fw neg Up both less at3 mids rows cols Edge gmin gall EdgeOk Zn NonNeg Clo)

/-! ### the pot -/
def PotIn (N : Nat) (H : Hp) (p : Addr) : Prop := ∃ a b c : Int, H p = some (.lst [.int a, .int b, .int c]) ∧ 0 ≤ a ∧ 0 ≤ b ∧ b < 2 ^ 61 ∧ 0 ≤ c ∧ c ≤ N
theorem PotIn.mono {N M : Nat} {H : Hp} {p : Addr} (h : PotIn N H p) (l : N ≤ M) : PotIn M H p := by
  obtain ⟨a, b, c, h1, h2, h3, h4, h5, h6⟩ := h
  exact ⟨a, b, c, h1, h2, h3, h4, h5, by omega⟩
theorem PotIn.ex {N : Nat} {H H1 : Hp} {p : Addr} (h : PotIn N H p) (e : Ex H H1) : PotIn N H1 p := by
  obtain ⟨a, b, c, h1, h2⟩ := h
  exact ⟨a, b, c, e p _ h1, h2⟩
theorem PotIn.at {N : Nat} {H : Hp} {p : Addr} (h : PotIn N H p) : ∃ xs, H p = some (.lst xs) := by
  obtain ⟨a, b, c, h1, _⟩ := h
  exact ⟨_, h1⟩
def EvP (p : Addr) (N M : Nat) (te : TE) (σ : L2.St) (R : V → Prop) : Prop := ∀ H1, PotIn N H1 p → ∀ Q : VK, (∀ v H2, R v → Eb p H1 H2 → PotIn M H2 p → Q v H2) → te σ H1 Q
def isN (u : Nat) (v : V) : Prop := ∃ d : Nat, d < u ∧ v = .int (d : Int)
section
variable {K : PySem.W.Frag} {σ : L2.St} {H H' : Hp} {ta tb tc td te tv tx : TE} {t u : TT} {x y z v : V} {r : R2} {D : Ends} {tu tw tz : TS}
theorem q_asgC {sp : Sp} {dvs vs : List V} {E : XK} {ta : TA} {i : Nat} (h : EvA ta σ H vs) (k : ∀ H1, Ex H H1 → sp (vs ++ dvs) H1 (fun v H2 => tz D (σ.set i (some v)) H2) E) : tSeq (tAsg (tCall sp dvs E ta) (gName i)) tz D σ H := h H (Ex.refl H) _ k
theorem s_retOpC {sp : Sp} {dvs vs : List V} {E : XK} {ta : TA} (h : EvA ta σ H vs) (k : ∀ H1, Ex H H1 → sp (vs ++ dvs) H1 (fun v H2 => tb σ H2 fun y H3 => r v y H3 D.rt) E) : tRet (tOp r (tCall sp dvs E ta) tb) D σ H := h H (Ex.refl H) _ k
theorem q_asgEv {i : Nat} {p : Addr} {xs : List V} (hb : Ev tb σ H (.ref p)) (hp : SqT K H p xs) (hl : xs.length ≤ 1000)
    (k : ∀ l T H1, H l = none → H T = none → Ex H H1 → H1 l = some (.lst (.ref T :: xs)) → H1 T = some (.tup [.int 0, .int 1]) → tz D (σ.set i (some (.ref l))) H1) :
    tSeq (tAsg (tOp rCat (tLst (tCons (tTup (tCons (tC (.int 0)) (tCons (tC (.int 1)) tNil))) tNil)) (tCB (rListS K) (tCons tb tNil))) (gName i)) tz D σ H :=
  ⟨by show 2 ≤ sizeLine; exact sz_of (by decide), fun T hT => ⟨by show 1 ≤ sizeLine; exact sz_of (by decide), fun l1 hl1 => hb _ ((Ex.new hT).trans (Ex.new hl1)) _ fun H2 e2 => by
    have eA := ((Ex.new (H := H) (o := .tup [.int 0, .int 1]) hT).trans (Ex.new (o := .lst [.ref T]) hl1)).trans e2
    have hTl : T ≠ l1 := fun z => by
      rw [z] at hl1
      rw [upd_same] at hl1
      cases hl1
    have t1 : H2 T = some (.tup [.int 0, .int 1]) := e2 T _ (by rw [upd_ne hTl]; exact upd_same)
    have l1v : H2 l1 = some (.lst [.ref T]) := e2 l1 _ upd_same
    refine ⟨p, xs, rfl, Or.inr (ex_t eA hp), fun l2 hl2 => ⟨l1, l2, [.ref T], xs, rfl, rfl, (Ex.new hl2) l1 _ l1v, upd_same, sz_of (by simp; omega), fun l hl => ?_⟩⟩
    have eB := eA.trans ((Ex.new (o := .lst xs) hl2).trans (Ex.new (o := .lst ([.ref T] ++ xs)) hl))
    refine k l T _ (fresh_back (eA.trans (Ex.new hl2)) hl) hT eB upd_same ?_
    exact ((Ex.new (o := .lst xs) hl2).trans (Ex.new (o := .lst ([.ref T] ++ xs)) hl)) T _ t1⟩⟩
end
section
variable {P : Program} {w : World} {K : PySem.W.Frag} {mg : Str → Option Value} {base : Heap} {aU aC : Addr}
/-! ### holds -/
def spLHolds (K : PySem.W.Frag) : Sp := fun vs H Q _ => ∃ (d v : Addr) (n : Nat) (S : Sq) (qs : List (Int × Int)), vs = [.ref d, .int n, .ref v] ∧ SqD K H d n S ∧ RwT K H v (qs.map fvs) ∧ qs.length + 1 = n ∧ n ≤ 4 ∧ (∀ q ∈ qs, FrOk q) ∧ RetV (.bl (holdsB n S (ev0 qs))) H Q
theorem c__law_holds (T : Tx K mg aU aC) (D : Df K mg "_law_holds" s__law_holds ["square", "many", "values"]) : Cl P w K mg base 1 "_law_holds" (spLHolds K) := by
  refine D.cl sc__law_holds (fun vs H Q E h => by obtain ⟨_, _, _, _, _, rfl, _⟩ := h; rfl) (fun f cdv A outer s H vs Q E hr h => ?_)
  obtain ⟨d, v, n, S, qs, rfl, hd, hv, hqn, h4, hqs, k⟩ := h
  obtain ⟨as, hv1, hv2⟩ := hv
  refine ⟨_, (pss_cons (ps_set (i := 3) sc__law_holds.nd rfl (.inl rfl) (pe_op op_cat (pe_lst (pa_cons (pe_tup (pa_cons pe_int (pa_cons pe_int pa_nil))) pa_nil)) (pe_callTy (listK (K := K)) (by rfl) T.n_list (by decide +kernel) (pa_cons (pv 2) pa_nil))))
      (pss_cons (ps_for PassesOwn.never rfl (pi_range1 (by rfl) T.n_range (pa_cons (pv 1) pa_nil)) (pg_name (i := 4) sc__law_holds.nd rfl (.inl rfl)) (pss_one (ps_for PassesOwn.never rfl (pi_range1 (by rfl) T.n_range (pa_cons (pv 1) pa_nil)) (pg_name (i := 5) sc__law_holds.nd rfl (.inl rfl)) (pss_cons (ps_set (i := 6) sc__law_holds.nd rfl (.inl rfl) (pe_dget (hu_of hr) (pv 0) (pe_tup (pa_cons (pv 4) (pa_cons (pv 5) pa_nil))) (fun _ _ => rfl)))
      (pss_one (ps_if (pt_cmpR op_notN (pv 6) pe_non (nomark _)) (pss_cons (ps_set (i := 7) sc__law_holds.nd rfl (.inl rfl) (pe_op op_sub (pe_op op_mul (pe_ix (ixT (K := K)) (pe_ix (ixL (K := K)) (pv 3) (pv 4) (fun _ _ => rfl)) pe_int (fun _ _ => rfl)) (pe_ix (ixT (K := K)) (pe_ix (ixL (K := K)) (pv 3) (pv 5) (fun _ _ => rfl)) pe_int (fun _ _ => rfl))) (pe_op op_mul (pe_ix (ixT (K := K)) (pe_ix (ixL (K := K)) (pv 3) (pv 5) (fun _ _ => rfl)) pe_int (fun _ _ => rfl)) (pe_ix (ixT (K := K)) (pe_ix (ixL (K := K)) (pv 3) (pv 4) (fun _ _ => rfl)) pe_int (fun _ _ => rfl)))))
      (pss_cons (ps_set (i := 8) sc__law_holds.nd rfl (.inl rfl) (pe_op op_mul (pe_op op_mul (pe_ix (ixT (K := K)) (pv 6) pe_int (fun _ _ => rfl)) (pe_ix (ixT (K := K)) (pe_ix (ixL (K := K)) (pv 3) (pv 4) (fun _ _ => rfl)) pe_int (fun _ _ => rfl))) (pe_ix (ixT (K := K)) (pe_ix (ixL (K := K)) (pv 3) (pv 5) (fun _ _ => rfl)) pe_int (fun _ _ => rfl))))
      (pss_one (ps_if (PW.pt (pw_or (pt_cmpR op_gt (pv 7) (pv 8) (nomark _)) (pw_or1 (PW.pt (pw_and (pt_cmpR op_eq (pv 7) (pv 8) (nomark _)) (pw_and1 (pt_not (pt_val (pe_ix (ixT (K := K)) (pv 6) pe_int (fun _ _ => rfl)))))))))) (pss_one (ps_ret pe_bl)) pss_nil)))) pss_nil))))))
      (pss_one (ps_ret pe_bl)))), ?_⟩
  have hasl : as.length + 1 = n := by
    rw [hv2.1, List.length_map]
    exact hqn
  have hn : (0 : Int) ≤ (n : Int) ∧ (n : Int) ≤ 100000 := ⟨by omega, by omega⟩
  refine q_asgEv (ev_var rfl) hv1 (by rw [List.length_map]; omega) fun l Tz H1 hl hT e1 h1l h1T => ?_
  have hrows : RwAt K H1 (Tz :: as) (fvs (0, 1) :: qs.map fvs) := (hv2.ex e1).cons (st_of h1T)
  have hsq : SqL K H1 l ((Tz :: as).map V.ref) := sq_of h1l
  have hd1 := hd.ex e1
  refine q_forR1 (ea_cons (ev_var rfl) ea_nil) hn (fun i σ H' => ∃ y4 y5 y6 y7 y8, σ = [some (.ref d), some (.int n), some (.ref v), some (.ref l), y4, y5, y6, y7, y8] ∧ Ex H1 H' ∧ ((List.range i).all fun i => (List.range n).all fun j => okB (S i j) (ev0 qs i) (ev0 qs j)) = true) (fun H2 e2 => ⟨none, none, none, none, none, rfl, e2, rfl⟩) (fun i σ H2 hi hP => ?_) (fun σ H2 hP => ?_)
  · obtain ⟨y4, y5, y6, y7, y8, rfl, e2, hall⟩ := hP
    have hi : i < n := by omega
    refine s_forR1 (ea_cons (ev_var rfl) ea_nil) hn (fun j σ H' => ∃ y5 y6 y7 y8, σ = [some (.ref d), some (.int n), some (.ref v), some (.ref l), some (.int i), y5, y6, y7, y8] ∧ Ex H1 H' ∧ ((List.range j).all fun j => okB (S i j) (ev0 qs i) (ev0 qs j)) = true) (fun H3 e3 => ⟨y5, y6, y7, y8, rfl, e2.trans e3, rfl⟩) (fun j σ H3 hj hP => ?_) (fun σ H3 hP => ?_)
    · obtain ⟨y5, y6, y7, y8, rfl, e3, hal2⟩ := hP
      have hj : j < n := by omega
      refine q_asgB (eb_get (ev_var rfl) (ev_var rfl) (ev_var rfl) (hd1.ex e3) hi hj) fun z H4 e4 hz => ?_
      have e14 := e3.trans e4
      refine s_when (b := !(S i j).isNone) (et_test (ev_not0 (eb_var rfl hz))) (fun hb H5 e5 => ?_) (fun hb H5 e5 => ?_)
      · have e15 := e14.trans e5
        obtain ⟨ri, hri, hri2⟩ := hrows.get (ev0_row (qs := qs) (i := i) (by omega))
        obtain ⟨rj, hrj, hrj2⟩ := hrows.get (ev0_row (qs := qs) (i := j) (by omega))
        have hli : ((Tz :: as).map V.ref)[i]? = some (.ref ri) := by rw [List.getElem?_map, hri]; rfl
        have hlj : ((Tz :: as).map V.ref)[j]? = some (.ref rj) := by rw [List.getElem?_map, hrj]; rfl
        have hri3 : SqT K H1 ri [.int (ev0 qs i).1, .int (ev0 qs i).2] := hri2
        have hrj3 : SqT K H1 rj [.int (ev0 qs j).1, .int (ev0 qs j).2] := hrj2
        have oi := ev0_ok hqs i
        have oj := ev0_ok hqs j
        obtain ⟨o1, o2, o3, o4, _⟩ := oi
        obtain ⟨o5, o6, o7, o8, _⟩ := oj
        cases hS : S i j with
        | none =>
          rw [hS] at hb
          cases hb
        | some b =>
          rw [hS] at hz
          have hz5 := hz.ex e5
          refine q_asg (v := .int ((ev0 qs i).1 * (ev0 qs j).2 - (ev0 qs j).1 * (ev0 qs i).2)) (ev_op (ev_op (ev_ixVT (ev_op (ev_var rfl) (ev_var rfl) (rv_ixL (ex_l e15 hsq) (at_of (j := i) rfl hli))) ev_c (ex_t e15 hri3) (by rfl)) (ev_ixVT (ev_op (ev_var rfl) (ev_var rfl) (rv_ixL (ex_l e15 hsq) (at_of (j := j) rfl hlj))) ev_c (ex_t e15 hrj3) (by rfl)) (rv_I (.inl ⟨by omega, by omega⟩)))
            (ev_op (ev_ixVT (ev_op (ev_var rfl) (ev_var rfl) (rv_ixL (ex_l e15 hsq) (at_of (j := j) rfl hlj))) ev_c (ex_t e15 hrj3) (by rfl)) (ev_ixVT (ev_op (ev_var rfl) (ev_var rfl) (rv_ixL (ex_l e15 hsq) (at_of (j := i) rfl hli))) ev_c (ex_t e15 hri3) (by rfl)) (rv_I (.inl ⟨by omega, by omega⟩))) rv_I0) fun H6 e6 => ?_
          have e16 := e15.trans e6
          refine q_asg (v := .int (b.1 * (ev0 qs i).2 * (ev0 qs j).2)) (ev_op (ev_op (ev_num (eb_var rfl (hz5.ex e6))) (ev_ixVT (ev_op (ev_var rfl) (ev_var rfl) (rv_ixL (ex_l e16 hsq) (at_of (j := i) rfl hli))) ev_c (ex_t e16 hri3) (by rfl)) (rv_I (.inr ⟨by omega, by omega⟩))) (ev_ixVT (ev_op (ev_var rfl) (ev_var rfl) (rv_ixL (ex_l e16 hsq) (at_of (j := j) rfl hlj))) ev_c (ex_t e16 hrj3) (by rfl)) (rv_I (.inr ⟨by omega, by omega⟩))) fun H7 e7 => ?_
          refine s_when (b := decide ((ev0 qs i).1 * (ev0 qs j).2 - (ev0 qs j).1 * (ev0 qs i).2 > b.1 * (ev0 qs i).2 * (ev0 qs j).2) || (decide ((ev0 qs i).1 * (ev0 qs j).2 - (ev0 qs j).1 * (ev0 qs i).2 = b.1 * (ev0 qs i).2 * (ev0 qs j).2) && !b.2)) (et_or (et_test (ev_op (ev_var rfl) (ev_var rfl) rv_I0)) fun _ => et_and (et_is (et_test (ev_op (ev_var rfl) (ev_var rfl) (rv_eq rfl))) (by rw [int_eq])) fun _ => et_not (et_B (ev_flag (eb_var rfl (hz5.ex (e6.trans e7)))))) (fun hb2 H8 e8 => ?_) (fun hb2 H8 e8 => ?_)
          · refine s_ret ev_c fun H9 e9 => ?_
            have e := k H9 (e1.trans ((e16.trans e7).trans (e8.trans e9)))
            have f1 : okB (S i j) (ev0 qs i) (ev0 qs j) = false := by
              rw [hS]
              show (!(_ || _)) = false
              rw [hb2]
              rfl
            have f2 : holdsB n S (ev0 qs) = false := all_range_false hi (all_range_false hj f1)
            rw [f2] at e
            exact e
          · refine ⟨_, _, _, _, rfl, (e16.trans e7).trans e8, ?_⟩
            rw [all_range_succ, hal2, Bool.true_and, hS]
            show (!(_ || _)) = true
            rw [hb2]
            rfl
      · refine ⟨_, _, _, _, rfl, e14.trans e5, ?_⟩
        rw [all_range_succ, hal2, Bool.true_and]
        cases hS : S i j with
        | none => rfl
        | some b =>
          rw [hS] at hb
          cases hb
    · obtain ⟨y5, y6, y7, y8, rfl, e3, hal2⟩ := hP
      refine ⟨_, _, _, _, _, rfl, e3, ?_⟩
      rw [all_range_succ, hall, Bool.true_and]
      rw [show ((n : Int)).toNat = n by omega] at hal2
      exact hal2
  · obtain ⟨y4, y5, y6, y7, y8, rfl, e2, hall⟩ := hP
    rw [show ((n : Int)).toNat = n by omega] at hall
    refine s_ret ev_c fun H3 e3 => ?_
    have e := k H3 (e1.trans (e2.trans e3))
    have f2 : holdsB n S (ev0 qs) = true := hall
    rw [f2] at e
    exact e
/-! ### is_zone, the law's -/
def spLZone (K : PySem.W.Frag) : Sp := fun vs H Q _ => ∃ (a : Addr) (n : Nat) (S : Sq), vs = [.ref a, .int n] ∧ SqT K H a (zv n S) ∧ (∀ i j, i < n → j < n → Zm.Cl1 (S i j)) ∧ 1 ≤ n ∧ n ≤ 4 ∧ RetV (.bl (lawB n S)) H Q
theorem c__law_is_zone (T : Tx K mg aU aC) (D : Df K mg "_law_is_zone" s__law_is_zone ["value", "many"]) (c__law_square : Cl P w K mg base 1 "_law_square" (spSquare K)) (c__law_is_less : Cl P w K mg base 1 "_law_is_less" (spLess K)) (c__law_tight : Cl P w K mg base 2 "_law_tight" (spLTight K)) : Cl P w K mg base 3 "_law_is_zone" (spLZone K) := by
  refine D.cl sc__law_is_zone (fun vs H Q E h => by obtain ⟨_, _, _, rfl, _⟩ := h; rfl) (fun f cdv A outer s H vs Q E hr h => ?_)
  obtain ⟨a, n, S, rfl, ha, hcl, hn1, hn4, k⟩ := h
  refine ⟨_, (pss_cons (ps_set (i := 2) sc__law_is_zone.nd rfl (.inl rfl) (pe_cl c__law_square hr (by decide) (by rfl) (pa_cons (pv 0) (pa_cons (pv 1) pa_nil))))
      (pss_cons (ps_for PassesOwn.never rfl (pi_range1 (by rfl) T.n_range (pa_cons (pv 1) pa_nil)) (pg_name (i := 3) sc__law_is_zone.nd rfl (.inl rfl)) (pss_one (ps_if (PW.pt (pw_or (pt_cmpR (neDK (K := K) (hu64 hr)) (pe_dget (hu_of hr) (pv 2) (pe_tup (pa_cons (pv 3) (pa_cons (pv 3) pa_nil))) (fun _ _ => rfl)) (pe_tup (pa_cons pe_int (pa_cons pe_bl pa_nil))) (nomark _)) (pw_or1 (pt_val (pe_cl c__law_is_less hr (by decide) (by rfl) (pa_cons (pe_tup (pa_cons pe_int (pa_cons pe_bl pa_nil))) (pa_cons (pe_dget (hu_of hr) (pv 2) (pe_tup (pa_cons pe_int (pa_cons (pv 3) pa_nil))) (fun _ _ => rfl)) pa_nil))))))) (pss_one (ps_ret pe_bl)) pss_nil)))
      (pss_one (ps_ret (pe_cmpR (op_eqDic (hu66 hr)) (pe_cl c__law_tight hr (by decide) (by rfl) (pa_cons (pv 2) (pa_cons (pv 1) pa_nil))) (pv 2) (nomark _)))))), ?_⟩
  have hn : (0 : Int) ≤ (n : Int) ∧ (n : Int) ≤ 100000 := ⟨by omega, by omega⟩
  refine q_asgC (ea_cons (ev_var rfl) (ea_cons (ev_var rfl) ea_nil)) fun H1 e1 => ⟨a, n, S, rfl, ex_t e1 ha, hcl, hn1, hn4, fun l H2 hl e2 h2l => ?_⟩
  have e02 := e1.trans e2
  refine q_forR1 (ea_cons (ev_var rfl) ea_nil) hn (fun i σ H' => ∃ y3, σ = [some (.ref a), some (.int n), some (.ref l), y3] ∧ Ex H2 H' ∧ ((List.range i).all fun i => decide (S i i = Zm.nil) && !less Zm.nil (S 0 i)) = true) (fun H3 e3 => ⟨none, rfl, e3, rfl⟩) (fun i σ H3 hi hP => ?_) (fun σ H3 hP => ?_)
  · obtain ⟨y3, rfl, e3, hall⟩ := hP
    have hi : i < n := by omega
    refine s_when (b := !decide (S i i = Zm.nil) || less Zm.nil (S 0 i)) (et_or (et_test (ev_neB (eb_get (ev_var rfl) (ev_var rfl) (ev_var rfl) (h2l.ex e3) hi hi) (eb_tup ev_c ev_c))) fun _ => et_B (ev_less (eb_tup ev_c ev_c) (eb_get (i := 0) (ev_var rfl) ev_c (ev_var rfl) (h2l.ex e3) (by omega) hi))) (fun hb H4 e4 => ?_) (fun hb H4 e4 => ?_)
    · refine s_ret ev_c fun H5 e5 => ?_
      have e := k H5 (e02.trans (e3.trans (e4.trans e5)))
      have f1 : (decide (S i i = Zm.nil) && !less Zm.nil (S 0 i)) = false := by
        cases h1 : decide (S i i = Zm.nil) <;> cases h2 : less Zm.nil (S 0 i) <;> rw [h1, h2] at hb <;> first | rfl | cases hb
      have f2 : lawB n S = false := by
        unfold lawB
        rw [all_range_false hi f1]
        rfl
      rw [f2] at e
      exact e
    · refine ⟨_, rfl, e3.trans e4, ?_⟩
      rw [all_range_succ, hall, Bool.true_and]
      cases h1 : decide (S i i = Zm.nil) <;> cases h2 : less Zm.nil (S 0 i) <;> rw [h1, h2] at hb <;> first | rfl | cases hb
  · obtain ⟨y3, rfl, e3, hall⟩ := hP
    rw [show ((n : Int)).toNat = n by omega] at hall
    have eB : lawB n S = (!neg n (fw n S) && (List.range (n * n)).all fun p => decide (fw n S (p / n) (p % n) = S (p / n) (p % n))) := by
      unfold lawB
      rw [hall]
      rfl
    rw [eB] at k
    refine s_retOpC (ea_cons (ev_var rfl) (ea_cons (ev_var rfl) ea_nil)) fun H4 e4 => ⟨l, n, S, rfl, h2l.ex (e3.trans e4), hn1, hn4, fun hb H5 e5 => ?_, fun hb p H5 hp e5 h5 => ?_⟩
    · refine ev_var (v := .ref l) rfl H5 (Ex.refl _) _ fun H6 e6 => ?_
      obtain ⟨u, q1, _⟩ := h2l.ex (((e3.trans e4).trans e5).trans e6)
      refine .inr ⟨l, _, rfl, rfl, q1, ?_⟩
      rw [hb] at k
      exact k H6 (e02.trans (((e3.trans e4).trans e5).trans e6))
    · refine ev_var (v := .ref l) rfl H5 (Ex.refl _) _ fun H6 e6 => ?_
      obtain ⟨u, q1, q2⟩ := h2l.ex (((e3.trans e4).trans e5).trans e6)
      obtain ⟨z, r1, r2⟩ := h5.ex e6
      refine .inl ⟨p, l, _, _, fun i => decide (fw n S (i / n) (i % n) = S (i / n) (i % n)), rfl, rfl, r1, q1, by rw [kvt_keys, kvt_keys], fun i x y hx hy => ?_, ?_⟩
      · have hin : i < n * n := by
          have := (List.getElem?_eq_some_iff.mp hx).1
          rw [kvt_len] at this
          exact this
        unfold kvt at hx hy
        rw [List.getElem?_map, List.getElem?_range hin] at hx hy
        injection hx with hx
        injection hy with hy
        subst hx hy
        exact ⟨_, _, bD_dp (r2 i hin), bD_dp (q2 i hin), bD_shaped _, bD_shaped _, (bD_eqv _ _).symm⟩
      · rw [hb] at k
        rw [kvt_len]
        exact k H6 (e02.trans (((e3.trans e4).trans e5).trans e6))
end
end Zb
set_option Elab.async false
set_option linter.all false
set_option maxRecDepth 100000
set_option maxHeartbeats 4000000
namespace Zb
open PySem PySem.Spec PyProof.Rows L2 L2.DX Zg Evl
open StX (pa_star tStar)
open RZ (pi_zipA iZipA ItzT)
open Zm (sumE Sq B zl enc dec fw neg Up both less at3 mids rows cols Edge gmin gall EdgeOk Zn NonNeg Clo)

section
variable {K : PySem.W.Frag} {σ : L2.St} {H H' : Hp} {ta tb tc td te tv tx : TE} {t u : TT} {x y z v : V} {r : R2} {D : Ends} {tu tw tz : TS}
/-! ### take, of -/
def spTake : Sp := fun vs H Q _ => ∃ (p : Addr) (N u : Nat), vs = [.ref p, .int u] ∧ PotIn N H p ∧ N ≤ 1000000 ∧ 1 ≤ u ∧ u ≤ 1000 ∧ ∀ v H2, isN u v → Eb p H H2 → PotIn (N + 1) H2 p → Q v H2
def spOf (K : PySem.W.Frag) : Sp := fun vs H Q _ => ∃ (p l : Addr) (N : Nat) (xs : List V), vs = [.ref p, .ref l] ∧ PotIn N H p ∧ l ≠ p ∧ H l = some (.lst xs) ∧ N ≤ 1000000 ∧ 1 ≤ xs.length ∧ xs.length ≤ 1000 ∧ ∀ v H2, v ∈ xs → Eb p H H2 → PotIn (N + 1) H2 p → Q v H2
theorem ep_take {p : Addr} {N u : Nat} {E : XK} (ha : ∀ H, Ev ta σ H (.ref p)) (hb : ∀ H, Ev tb σ H (.int u)) (hN : N ≤ 1000000) (h1 : 1 ≤ u) (h2 : u ≤ 1000) : EvP p N (N + 1) (tCall spTake [] E (tCons ta (tCons tb tNil))) σ (isN u) := fun H1 hP Q q =>
  ha H1 H1 (Ex.refl _) _ fun H2 e2 => hb H2 H2 (Ex.refl _) _ fun H3 e3 => ⟨p, N, u, rfl, hP.ex (e2.trans e3), hN, h1, h2, fun v H4 hv e4 hP4 => q v H4 hv ((Eb.of (e2.trans e3)).trans e4) hP4⟩
theorem ep_of {p : Addr} {N : Nat} {xs : List V} {E : XK} (ha : ∀ H, Ev ta σ H (.ref p)) (hb : ∀ H, EvL tb σ H xs) (hN : N ≤ 1000000) (h1 : 1 ≤ xs.length) (h2 : xs.length ≤ 1000) : EvP p N (N + 1) (tCall (spOf K) [] E (tCons ta (tCons tb tNil))) σ (fun v => v ∈ xs) := fun H1 hP Q q =>
  ha H1 H1 (Ex.refl _) _ fun H2 e2 => hb H2 H2 (Ex.refl _) _ fun l H3 hl e3 h3 => by
    obtain ⟨ys, hp⟩ := (hP.ex e2).at
    refine ⟨p, l, N, xs, rfl, hP.ex (e2.trans e3), fun z => ?_, h3, hN, h1, h2, fun v H4 hv e4 hP4 => q v H4 hv ((Eb.of (e2.trans e3)).trans e4) hP4⟩
    rw [z, hp] at hl
    cases hl
theorem s_retOpR {sp : Sp} {dvs vs : List V} {E : XK} {tA : TA} (ha : Ev ta σ H x) (hb : EvA tA σ H vs) (k : ∀ H1, Ex H H1 → sp (vs ++ dvs) H1 (fun y H2 => r x y H2 D.rt) E) : tRet (tOp r ta (tCall sp dvs E tA)) D σ H :=
  ha H (Ex.refl H) _ fun H1 e1 => hb H1 e1 _ fun H2 e2 => k H2 (e1.trans e2)
theorem q_parP {p : Addr} {N M L i j : Nat} {R S : V → Prop} (ha : EvP p N M ta σ R) (hb : EvP p M L tb σ S) (hP : PotIn N H p) (k : ∀ x y H1, R x → S y → Eb p H H1 → PotIn L H1 p → tz D ((σ.set i (some x)).set j (some y)) H1) : tSeq (tPar i j (tCons ta (tCons tb tNil))) tz D σ H :=
  ha H hP _ fun x H1 hx e1 h1 => hb H1 h1 _ fun y H2 hy e2 h2 => ⟨x, y, rfl, k x y H2 hx hy (e1.trans e2) h2⟩
end
theorem prime_at (j : Int) (h1 : 0 ≤ j) (h2 : j < 5) : ∃ q : Int, 0 < q ∧ q < 2 ^ 31 ∧ atI [V.int 2147483647, V.int 2147483629, V.int 2147483587, V.int 2147483579, V.int 2147483563] j = some (.int q) := by
  have : j = 0 ∨ j = 1 ∨ j = 2 ∨ j = 3 ∨ j = 4 := by omega
  rcases this with rfl | rfl | rfl | rfl | rfl
  · exact ⟨2147483647, by decide, by decide, rfl⟩
  · exact ⟨2147483629, by decide, by decide, rfl⟩
  · exact ⟨2147483587, by decide, by decide, rfl⟩
  · exact ⟨2147483579, by decide, by decide, rfl⟩
  · exact ⟨2147483563, by decide, by decide, rfl⟩
theorem mem_at {xs : List V} {d : Nat} (h : d < xs.length) : ∃ v, v ∈ xs ∧ atI xs (d : Int) = some v := ⟨xs[d], List.getElem_mem h, at_of (j := d) rfl (List.getElem?_eq_getElem h)⟩
section
variable {P : Program} {w : World} {K : PySem.W.Frag} {mg : Str → Option Value} {base : Heap} {aU aC : Addr}
theorem c__law_take (T : Tx K mg aU aC) (D : Df K mg "_law_take" s__law_take ["pot", "upto"]) : Cl P w K mg base 1 "_law_take" spTake := by
  refine D.cl sc__law_take (fun vs H Q E h => by obtain ⟨_, _, _, rfl, _⟩ := h; rfl) (fun f cdv A outer s H vs Q E hr h => ?_)
  obtain ⟨p, N, u, rfl, hP, hN, hu1, hu2, k⟩ := h
  refine ⟨_, (pss_cons (ps_if (pt_cmpR op_gt (pe_ix (ixL (K := K)) (pv 0) pe_int (fun _ _ => rfl)) pe_int (nomark _)) (pss_cons (ps_set (i := 2) sc__law_take.nd rfl (.inl rfl) (pe_op op_mod (pe_callTy call_int1 (by rfl) T.n_int (by decide +kernel) (pa_cons (pe_ix (ixL (K := K)) (pv 0) pe_int (fun _ _ => rfl)) pa_nil)) (pv 1)))
      (pss_cons (ps_asg (pe_op op_fdiv (pe_ix (ixL (K := K)) (pv 0) pe_int (fun _ _ => rfl)) (pv 1)) (pg_sub (pv 0) pe_int set_list))
      (pss_one (ps_ret (pv 2))))) pss_nil)
      (pss_cons (ps_asg (pe_op op_add (pe_ix (ixL (K := K)) (pv 0) pe_int (fun _ _ => rfl)) pe_int) (pg_sub (pv 0) pe_int set_list))
      (pss_cons (ps_set (i := 3) sc__law_take.nd rfl (.inl rfl) (pe_ix (ixL (K := K)) (pe_lst (pa_cons pe_int (pa_cons pe_int (pa_cons pe_int (pa_cons pe_int (pa_cons pe_int pa_nil)))))) (pe_op op_mod (pe_callTy call_int1 (by rfl) T.n_int (by decide +kernel) (pa_cons (pe_ix (ixL (K := K)) (pv 0) pe_int (fun _ _ => rfl)) pa_nil)) pe_int) (fun _ _ => rfl)))
      (pss_cons (ps_set (i := 4) sc__law_take.nd rfl (.inl rfl) (pe_op op_mod (pe_op op_powW (pe_callTy call_int1 (by rfl) T.n_int (by decide +kernel) (pa_cons (pe_op op_add (pe_op op_add (pe_ix (ixL (K := K)) (pv 0) pe_int (fun _ _ => rfl)) (pe_op op_mul (pe_op op_mul pe_int (pe_ix (ixL (K := K)) (pv 0) pe_int (fun _ _ => rfl))) (pe_ix (ixL (K := K)) (pv 0) pe_int (fun _ _ => rfl)))) pe_int) pa_nil)) pe_int) (pv 3)))
      (pss_one (ps_ret (pe_op op_mod (pe_op op_fdiv (pe_op op_mod (pe_callTy call_int1 (by rfl) T.n_int (by decide +kernel) (pa_cons (pe_op op_mul (pv 4) (pe_op op_add (pe_op op_mod (pe_callTy call_int1 (by rfl) T.n_int (by decide +kernel) (pa_cons (pv 4) pa_nil)) pe_int) (pe_op op_mul pe_int (pe_ix (ixL (K := K)) (pv 0) pe_int (fun _ _ => rfl))))) pa_nil)) pe_int) pe_int) (pv 1)))))))), ?_⟩
  obtain ⟨a, b, c, hp, ha0, hb0, hb1, hc0, hc1⟩ := hP
  have hu0 : (0 : Int) < (u : Int) := by omega
  have hmodn : ∀ z : Int, isN u (.int (z % (u : Int))) := fun z => ⟨(z % (u : Int)).toNat, by
    have h1 := Int.emod_nonneg z (show (u : Int) ≠ 0 by omega)
    have h2 := Int.emod_lt_of_pos z hu0
    omega, by
    have h1 := Int.emod_nonneg z (show (u : Int) ≠ 0 by omega)
    rw [Int.toNat_of_nonneg h1]⟩
  refine q_when (b := decide (a > 0)) (et_test (ev_op (ev_op (ev_var rfl) ev_c (rv_ixL (sq_of hp) (by rfl))) ev_c rv_I0)) (fun hb H1 e1 => ?_) fun hb H1 e1 => ?_
  · have hp1 := e1 p _ hp
    refine q_asg (v := .int (a % (u : Int))) (ev_op (ev_int1 (ev_op (ev_var rfl) ev_c (rv_ixL (sq_of hp1) (by rfl)))) (ev_var rfl) (rv_I hu0)) fun H2 e2 => ?_
    have hp2 := e2 p _ hp1
    refine q_setL (j := 0) (v := .int (a / (u : Int))) hp2 (ev_op (ev_op (ev_var rfl) ev_c (rv_ixL (sq_of hp2) (by rfl))) (ev_var rfl) (rv_I ⟨hu0, by omega⟩)) (ev_var rfl) ev_c (by show 0 < 3; decide) fun H3 e3 => ?_
    refine s_ret (ev_var rfl) fun H4 e4 => k _ H4 (hmodn a) ((Eb.of ((e1.trans e2).trans e3)).upd.trans (Eb.of e4)) (PotIn.ex ⟨a / (u : Int), b, c, upd_same, Int.ediv_nonneg ha0 (by omega), hb0, hb1, hc0, by omega⟩ e4)
  · have hp1 := e1 p _ hp
    refine q_setL (j := 2) (v := .int (c + 1)) hp1 (ev_op (ev_op (ev_var rfl) ev_c (rv_ixL (sq_of hp1) (by rfl))) ev_c rv_I0) (ev_var rfl) ev_c (by show 2 < 3; decide) fun H2 e2 => ?_
    have hp2 : (upd H2 p (.lst (List.set [.int a, .int b, .int c] 2 (.int (c + 1))))) p = some (.lst [.int a, .int b, .int (c + 1)]) := upd_same
    generalize hH : upd H2 p (.lst (List.set [V.int a, V.int b, V.int c] 2 (V.int (c + 1)))) = H3 at hp2 ⊢
    have e03 : Eb p H H3 := by
      rw [← hH]
      exact (Eb.of (e1.trans e2)).upd
    obtain ⟨q, hq0, hq1, hq⟩ := prime_at ((c + 1) % 5) (Int.emod_nonneg _ (by decide)) (Int.emod_lt_of_pos _ (by decide))
    refine q_asg (v := .int q) (ev_opL1 (el_lst (ea_cons ev_c (ea_cons ev_c (ea_cons ev_c (ea_cons ev_c (ea_cons ev_c ea_nil))))) (by show 5 ≤ 100000; decide)) (fun H4 e4 => ev_op (ev_int1 (ev_op (ev_var rfl) ev_c (rv_ixL (ex_l e4 (sq_of hp2)) (by rfl)))) ev_c (rv_I (by decide))) fun l H4 h4 e4 => rv_ixL (sq_of h4) hq) fun H4 e4 => ?_
    have hp4 := e4 p _ hp2
    have hbig : -(2 ^ 64) < b + 67763 * (c + 1) * (c + 1) + 61 ∧ b + 67763 * (c + 1) * (c + 1) + 61 < 2 ^ 64 := by
      have h1 : (c + 1) * (c + 1) ≤ 1000002 * 1000002 := Int.mul_le_mul (by omega) (by omega) (by omega) (by decide)
      have h2 : 0 ≤ (c + 1) * (c + 1) := Int.mul_nonneg (by omega) (by omega)
      rw [Int.mul_assoc]
      constructor <;> omega
    have hpw : (0 : Int) ≤ 3 ∧ (Builtin.Int.intBits (b + 67763 * (c + 1) * (c + 1) + 61) : Int) * 3 ≤ 2 ^ 27 := ⟨by decide, by
      have := intBits_le_64 hbig.1 hbig.2
      omega⟩
    refine q_asg (v := .int ((b + 67763 * (c + 1) * (c + 1) + 61) ^ (3 : Int).toNat % q)) (ev_op (ev_op (ev_int1 (ev_op (ev_op (ev_op (ev_var rfl) ev_c (rv_ixL (sq_of hp4) (by rfl))) (ev_op (ev_op ev_c (ev_op (ev_var rfl) ev_c (rv_ixL (sq_of hp4) (by rfl))) (rv_I (.inl ⟨by decide, by decide⟩))) (ev_op (ev_var rfl) ev_c (rv_ixL (sq_of hp4) (by rfl))) (rv_I (.inr ⟨by omega, by omega⟩))) rv_I0) ev_c rv_I0)) ev_c (rv_I hpw)) (ev_var rfl) (rv_I hq0)) fun H5 e5 => ?_
    have hm0 := Int.emod_nonneg ((b + 67763 * (c + 1) * (c + 1) + 61) ^ (3 : Int).toNat) (show q ≠ 0 by omega)
    have hm1 := Int.emod_lt_of_pos ((b + 67763 * (c + 1) * (c + 1) + 61) ^ (3 : Int).toNat) hq0
    generalize (b + 67763 * (c + 1) * (c + 1) + 61) ^ (3 : Int).toNat % q = mx at hm0 hm1
    have hp5 := e5 p _ hp4
    refine s_ret (ev_op (ev_op (ev_op (ev_int1 (ev_op (ev_var rfl) (ev_op (ev_op (ev_int1 (ev_var rfl)) ev_c (rv_I (by decide))) (ev_op ev_c (ev_op (ev_var rfl) ev_c (rv_ixL (sq_of hp5) (by rfl))) (rv_I (.inl ⟨by decide, by decide⟩))) rv_I0) (rv_I (.inl ⟨by omega, by omega⟩)))) ev_c (rv_I (by decide))) ev_c (rv_I ⟨by decide, by decide⟩)) (ev_var rfl) (rv_I hu0)) fun H6 e6 => k _ H6 (hmodn _) (e03.trans (Eb.of ((e4.trans e5).trans e6))) ⟨a, b, c + 1, e6 p _ hp5, ha0, hb0, hb1, by omega, by omega⟩
theorem c__law_of (T : Tx K mg aU aC) (D : Df K mg "_law_of" s__law_of ["pot", "some"]) (c__law_take : Cl P w K mg base 1 "_law_take" spTake) : Cl P w K mg base 2 "_law_of" (spOf K) := by
  refine D.cl sc__law_of (fun vs H Q E h => by obtain ⟨_, _, _, _, rfl, _⟩ := h; rfl) (fun f cdv A outer s H vs Q E hr h => ?_)
  obtain ⟨p, l, N, xs, rfl, hP, hlp, hl, hN, h1, h2, k⟩ := h
  refine ⟨_, (pss_one (ps_ret (pe_ix (ixL (K := K)) (pv 1) (pe_cl c__law_take hr (by decide) (by rfl) (pa_cons (pv 0) (pa_cons (pe_callB (lenK (K := K)) (by rfl) T.n_len PySem.boot_len (pa_cons (pv 1) pa_nil)) pa_nil))) (fun _ _ => rfl)))), ?_⟩
  refine s_retOpR (ev_var rfl) (ea_cons (ev_var rfl) (ea_cons (ev_len (ev_var rfl) (sq_of hl)) ea_nil)) fun H1 e1 => ⟨p, N, xs.length, rfl, hP.ex e1, hN, h1, h2, fun v H4 hv e4 hP4 => ?_⟩
  obtain ⟨d, hd, rfl⟩ := hv
  obtain ⟨x, hx, hat⟩ := mem_at hd
  exact ⟨l, xs, (d : Int), x, rfl, rfl, sq_of (e4 l _ hlp (e1 l _ hl)), hat, k x H4 hx ((Eb.of e1).trans e4) hP4⟩
/-! ### value, plus -/
structure SmFr (q : Int × Int) : Prop where
  t0 : 0 ≤ q.1
  t1 : q.1 ≤ 39
  l0 : 1 ≤ q.2
  l1 : q.2 ≤ 3
  g : Nat.gcd q.1.natAbs q.2.natAbs = 1
theorem SmFr.ok {q : Int × Int} (h : SmFr q) : FrOk q := ⟨h.t0, by have := h.t1; omega, h.l0, by have := h.l1; omega, h.g⟩
/-- divided by what is common -/
def redu (t l : Int) : Int × Int := (t / ((Nat.gcd t.natAbs l.natAbs : Nat) : Int), l / ((Nat.gcd t.natAbs l.natAbs : Nat) : Int))
theorem redu_ok {t l : Int} (ht : 0 ≤ t) (hl : 1 ≤ l) : 0 ≤ (redu t l).1 ∧ (redu t l).1 ≤ t ∧ 1 ≤ (redu t l).2 ∧ (redu t l).2 ≤ l ∧ Nat.gcd (redu t l).1.natAbs (redu t l).2.natAbs = 1 ∧ (redu t l).1 * ((Nat.gcd t.natAbs l.natAbs : Nat) : Int) = t ∧ (redu t l).2 * ((Nat.gcd t.natAbs l.natAbs : Nat) : Int) = l := by
  obtain ⟨a, rfl⟩ := Int.eq_ofNat_of_zero_le ht
  obtain ⟨b, rfl⟩ := Int.eq_ofNat_of_zero_le (show 0 ≤ l by omega)
  have hb : 0 < b := by omega
  have hg : 0 < Nat.gcd a b := Nat.gcd_pos_of_pos_right a hb
  have e1 : (redu (a : Int) (b : Int)).1 = ((a / Nat.gcd a b : Nat) : Int) := by
    unfold redu
    simp
  have e2 : (redu (a : Int) (b : Int)).2 = ((b / Nat.gcd a b : Nat) : Int) := by
    unfold redu
    simp
  rw [e1, e2]
  have d1 : a / Nat.gcd a b * Nat.gcd a b = a := Nat.div_mul_cancel (Nat.gcd_dvd_left a b)
  have d2 : b / Nat.gcd a b * Nat.gcd a b = b := Nat.div_mul_cancel (Nat.gcd_dvd_right a b)
  have l1 : a / Nat.gcd a b ≤ a := Nat.div_le_self a _
  have l2 : b / Nat.gcd a b ≤ b := Nat.div_le_self b _
  have l3 : 0 < b / Nat.gcd a b := Nat.div_pos (Nat.le_of_dvd hb (Nat.gcd_dvd_right a b)) hg
  refine ⟨Int.natCast_nonneg _, by exact_mod_cast l1, by exact_mod_cast l3, by exact_mod_cast l2, ?_, ?_, ?_⟩
  · simp only [Int.natAbs_natCast]
    rw [Nat.gcd_div (Nat.gcd_dvd_left a b) (Nat.gcd_dvd_right a b), Nat.div_self hg]
  · simp only [Int.natAbs_natCast]
    exact_mod_cast d1
  · simp only [Int.natAbs_natCast]
    exact_mod_cast d2
def spValue (K : PySem.W.Frag) : Sp := fun vs H Q _ => ∃ (p : Addr) (N : Nat), vs = [.ref p] ∧ PotIn N H p ∧ N ≤ 999990 ∧ ∀ q a H2, SmFr q → H a = none → Eb p H H2 → PotIn (N + 2) H2 p → H2 a = some (.tup (fvs q)) → Q (.ref a) H2
theorem c__law_value (T : Tx K mg aU aC) (D : Df K mg "_law_value" s__law_value ["pot"]) (c__law_take : Cl P w K mg base 1 "_law_take" spTake) (c__law_of : Cl P w K mg base 2 "_law_of" (spOf K)) : Cl P w K mg base 3 "_law_value" (spValue K) := by
  refine D.cl sc__law_value (fun vs H Q E h => by obtain ⟨_, _, rfl, _⟩ := h; rfl) (fun f cdv A outer s H vs Q E hr h => ?_)
  obtain ⟨p, N, rfl, hP, hN, k⟩ := h
  refine ⟨_, (pss_cons (ps_par (i := 1) (j := 2) rfl sc__law_value.nd rfl rfl (by decide) rfl rfl (pa_cons (pe_cl c__law_take hr (by decide) (by rfl) (pa_cons (pv 0) (pa_cons pe_int pa_nil))) (pa_cons (pe_cl c__law_of hr (by decide) (by rfl) (pa_cons (pv 0) (pa_cons (pe_lst (pa_cons pe_int (pa_cons pe_int (pa_cons pe_int (pa_cons pe_int pa_nil))))) pa_nil))) pa_nil)) rfl)
      (pss_cons (ps_par (i := 3) (j := 4) rfl sc__law_value.nd rfl rfl (by decide) rfl rfl (pa_cons (pv 1) (pa_cons (pv 2) pa_nil)) rfl)
      (pss_cons (ps_while PassesOwn.never (pt_cmpR op_ne (pv 4) pe_int (nomark _)) (pss_one (ps_par (i := 3) (j := 4) rfl sc__law_value.nd rfl rfl (by decide) rfl rfl (pa_cons (pv 4) (pa_cons (pe_op op_mod (pv 3) (pv 4)) pa_nil)) rfl)))
      (pss_one (ps_ret (pe_tup (pa_cons (pe_op op_fdiv (pv 1) (pv 3)) (pa_cons (pe_op op_fdiv (pv 2) (pv 3)) pa_nil)))))))), ?_⟩
  refine q_parP (ep_take (u := 40) (fun _ => ev_var rfl) (fun _ => ev_c) (by omega) (by decide) (by decide)) (ep_of (K := K) (xs := [.int 1, .int 1, .int 2, .int 3]) (fun _ => ev_var rfl) (fun _ => el_lst (ea_cons ev_c (ea_cons ev_c (ea_cons ev_c (ea_cons ev_c ea_nil)))) (by show 4 ≤ 100000; decide)) (by omega) (by decide) (by decide)) hP fun x y H1 hx hy e1 hP1 => ?_
  obtain ⟨t, ht, rfl⟩ := hx
  have hy2 : ∃ l : Nat, 1 ≤ l ∧ l ≤ 3 ∧ y = .int (l : Int) := by
    simp only [List.mem_cons, List.not_mem_nil, or_false] at hy
    rcases hy with rfl | rfl | rfl | rfl
    · exact ⟨1, by decide, by decide, rfl⟩
    · exact ⟨1, by decide, by decide, rfl⟩
    · exact ⟨2, by decide, by decide, rfl⟩
    · exact ⟨3, by decide, by decide, rfl⟩
  obtain ⟨l, hl1, hl3, rfl⟩ := hy2
  refine q_par (ev_var rfl) (ev_var rfl) fun H2 e2 => ?_
  refine q_while (fun m σ H3 => ∃ x y : Nat, σ = [some (.ref p), some (.int (t : Int)), some (.int (l : Int)), some (.int x), some (.int y)] ∧ Nat.gcd x y = Nat.gcd t l ∧ m = y ∧ Ex H1 H3) l ⟨t, l, rfl, rfl, rfl, e2⟩ fun m σ H3 hW => ?_
  obtain ⟨x, y, rfl, hg, rfl, e3⟩ := hW
  refine ⟨!decide (m = 0), et_is (et_test (ev_op (ev_var rfl) ev_c (rv_ne rfl))) (int_ne0 m), fun hb H4 e4 => ?_, fun hb H4 e4 => ?_⟩
  · have hm : 0 < m := by
      have : ¬ m = 0 := by simpa using hb
      omega
    refine ⟨_, fun σ4 H4 h => h, s_par (ev_var rfl) (ev_op (ev_var rfl) (ev_var rfl) (rv_I (by omega))) fun H5 e5 => ⟨x % m, Nat.mod_lt _ hm, m, x % m, ?_, ?_, rfl, (e3.trans e4).trans e5⟩⟩
    · rw [Int.natCast_emod]
      rfl
    · rw [← hg, Nat.gcd_comm, ← Nat.gcd_rec, Nat.gcd_comm]
  · have hm : m = 0 := by simpa using hb
    subst hm
    rw [Nat.gcd_zero_right] at hg
    subst hg
    have hgp : 0 < Nat.gcd t l := Nat.gcd_pos_of_pos_right t (by omega)
    have hgl : Nat.gcd t l ≤ l := Nat.le_of_dvd (by omega) (Nat.gcd_dvd_right t l)
    obtain ⟨r1, r2, r3, r4, r5, _⟩ := redu_ok (t := (t : Int)) (l := (l : Int)) (by omega) (by omega)
    refine s_retU (eu_tup (vs := fvs (redu (t : Int) (l : Int))) (ea_cons (ev_op (ev_var rfl) (ev_var rfl) (rv_I ⟨by omega, by omega⟩)) (ea_cons (ev_op (ev_var rfl) (ev_var rfl) (rv_I ⟨by omega, by omega⟩)) ea_nil)) (by show 2 ≤ 100000; decide)) fun a H5 ha e5 h5 => ?_
    have e15 := (e3.trans e4).trans e5
    obtain ⟨ys, hpl⟩ := hP1.at
    have ha1 : H1 a = none := fresh_back (e3.trans e4) ha
    refine k _ a H5 ⟨r1, by omega, r3, by omega, r5⟩ (e1.free (fun z => by rw [z, hpl] at ha1; cases ha1) ha1) (e1.trans (Eb.of e15)) (hP1.ex e15) h5
def spPlus (K : PySem.W.Frag) : Sp := fun vs H Q _ => ∃ (a b : Addr) (x y : Int × Int), vs = [.ref a, .ref b] ∧ SqT K H a (fvs x) ∧ SqT K H b (fvs y) ∧ SmFr x ∧ SmFr y ∧ RetU (fvs (redu (x.1 * y.2 + y.1 * x.2) (x.2 * y.2))) H Q
theorem mul_bd {a b : Int} {m n : Int} (h1 : 0 ≤ a) (h2 : a ≤ m) (h3 : 0 ≤ b) (h4 : b ≤ n) : 0 ≤ a * b ∧ a * b ≤ m * n := ⟨Int.mul_nonneg h1 h3, Int.mul_le_mul h2 h4 h3 (by omega)⟩
theorem plus_bd {x y : Int × Int} (hx : SmFr x) (hy : SmFr y) : 0 ≤ x.1 * y.2 + y.1 * x.2 ∧ x.1 * y.2 + y.1 * x.2 ≤ 234 ∧ 1 ≤ x.2 * y.2 ∧ x.2 * y.2 ≤ 9 := by
  obtain ⟨a1, a2, a3, a4, _⟩ := hx
  obtain ⟨b1, b2, b3, b4, _⟩ := hy
  have h1 := mul_bd a1 a2 (show 0 ≤ y.2 by omega) b4
  have h2 := mul_bd b1 b2 (show 0 ≤ x.2 by omega) a4
  have h3 := mul_bd (show 0 ≤ x.2 by omega) a4 (show 0 ≤ y.2 by omega) b4
  have h4 : 0 < x.2 * y.2 := Int.mul_pos (by omega) (by omega)
  exact ⟨by omega, by omega, by omega, by omega⟩
theorem plus_ok {x y : Int × Int} (hx : SmFr x) (hy : SmFr y) : FrOk (redu (x.1 * y.2 + y.1 * x.2) (x.2 * y.2)) := by
  obtain ⟨h1, h2, h3, h4⟩ := plus_bd hx hy
  obtain ⟨r1, r2, r3, r4, r5, _⟩ := redu_ok h1 h3
  exact ⟨r1, by omega, r3, by omega, r5⟩
theorem c__law_plus (T : Tx K mg aU aC) (D : Df K mg "_law_plus" s__law_plus ["one", "other"]) : Cl P w K mg base 1 "_law_plus" (spPlus K) := by
  refine D.cl sc__law_plus (fun vs H Q E h => by obtain ⟨_, _, _, _, rfl, _⟩ := h; rfl) (fun f cdv A outer s H vs Q E hr h => ?_)
  obtain ⟨a, b, x, y, rfl, ha, hb, hx, hy, k⟩ := h
  refine ⟨_, (pss_cons (ps_par (i := 2) (j := 3) rfl sc__law_plus.nd rfl rfl (by decide) rfl rfl (pa_cons (pe_op op_add (pe_op op_mul (pe_ix (ixT (K := K)) (pv 0) pe_int (fun _ _ => rfl)) (pe_ix (ixT (K := K)) (pv 1) pe_int (fun _ _ => rfl))) (pe_op op_mul (pe_ix (ixT (K := K)) (pv 1) pe_int (fun _ _ => rfl)) (pe_ix (ixT (K := K)) (pv 0) pe_int (fun _ _ => rfl)))) (pa_cons (pe_op op_mul (pe_ix (ixT (K := K)) (pv 0) pe_int (fun _ _ => rfl)) (pe_ix (ixT (K := K)) (pv 1) pe_int (fun _ _ => rfl))) pa_nil)) rfl)
      (pss_cons (ps_par (i := 4) (j := 5) rfl sc__law_plus.nd rfl rfl (by decide) rfl rfl (pa_cons (pv 2) (pa_cons (pv 3) pa_nil)) rfl)
      (pss_cons (ps_while PassesOwn.never (pt_cmpR op_ne (pv 5) pe_int (nomark _)) (pss_one (ps_par (i := 4) (j := 5) rfl sc__law_plus.nd rfl rfl (by decide) rfl rfl (pa_cons (pv 5) (pa_cons (pe_op op_mod (pv 4) (pv 5)) pa_nil)) rfl)))
      (pss_one (ps_ret (pe_tup (pa_cons (pe_op op_fdiv (pv 2) (pv 4)) (pa_cons (pe_op op_fdiv (pv 3) (pv 4)) pa_nil)))))))), ?_⟩
  obtain ⟨p1, p2, p3, p4⟩ := plus_bd hx hy
  obtain ⟨a1, a2, a3, a4, _⟩ := hx
  obtain ⟨b1, b2, b3, b4, _⟩ := hy
  have ha' : SqT K H a [.int x.1, .int x.2] := ha
  have hb' : SqT K H b [.int y.1, .int y.2] := hb
  refine q_par (x := .int (x.1 * y.2 + y.1 * x.2)) (y := .int (x.2 * y.2)) (ev_op (ev_op (ev_ixVT (ev_var rfl) ev_c ha' (by rfl)) (ev_ixVT (ev_var rfl) ev_c hb' (by rfl)) (rv_I (.inl ⟨by omega, by omega⟩))) (ev_op (ev_ixVT (ev_var rfl) ev_c hb' (by rfl)) (ev_ixVT (ev_var rfl) ev_c ha' (by rfl)) (rv_I (.inl ⟨by omega, by omega⟩))) rv_I0) (ev_op (ev_ixVT (ev_var rfl) ev_c ha' (by rfl)) (ev_ixVT (ev_var rfl) ev_c hb' (by rfl)) (rv_I (.inl ⟨by omega, by omega⟩))) fun H1 e1 => ?_
  generalize x.1 * y.2 + y.1 * x.2 = t at *
  generalize x.2 * y.2 = l at *
  obtain ⟨t, rfl⟩ := Int.eq_ofNat_of_zero_le p1
  obtain ⟨l, rfl⟩ := Int.eq_ofNat_of_zero_le (show 0 ≤ l by omega)
  refine q_par (ev_var rfl) (ev_var rfl) fun H2 e2 => ?_
  refine q_while (fun m σ H3 => ∃ x y : Nat, σ = [some (.ref a), some (.ref b), some (.int (t : Int)), some (.int (l : Int)), some (.int x), some (.int y)] ∧ Nat.gcd x y = Nat.gcd t l ∧ m = y ∧ Ex H H3) l ⟨t, l, rfl, rfl, rfl, e1.trans e2⟩ fun m σ H3 hW => ?_
  obtain ⟨x, y, rfl, hg, rfl, e3⟩ := hW
  refine ⟨!decide (m = 0), et_is (et_test (ev_op (ev_var rfl) ev_c (rv_ne rfl))) (int_ne0 m), fun hb H4 e4 => ?_, fun hb H4 e4 => ?_⟩
  · have hm : 0 < m := by
      have : ¬ m = 0 := by simpa using hb
      omega
    refine ⟨_, fun σ4 H4 h => h, s_par (ev_var rfl) (ev_op (ev_var rfl) (ev_var rfl) (rv_I (by omega))) fun H5 e5 => ⟨x % m, Nat.mod_lt _ hm, m, x % m, ?_, ?_, rfl, (e3.trans e4).trans e5⟩⟩
    · rw [Int.natCast_emod]
      rfl
    · rw [← hg, Nat.gcd_comm, ← Nat.gcd_rec, Nat.gcd_comm]
  · have hm : m = 0 := by simpa using hb
    subst hm
    rw [Nat.gcd_zero_right] at hg
    subst hg
    have hgp : 0 < Nat.gcd t l := Nat.gcd_pos_of_pos_right t (by omega)
    have hgl : Nat.gcd t l ≤ l := Nat.le_of_dvd (by omega) (Nat.gcd_dvd_right t l)
    refine s_retU (eu_tup (vs := fvs (redu (t : Int) (l : Int))) (ea_cons (ev_op (ev_var rfl) (ev_var rfl) (rv_I ⟨by omega, by omega⟩)) (ea_cons (ev_op (ev_var rfl) (ev_var rfl) (rv_I ⟨by omega, by omega⟩)) ea_nil)) (by show 2 ≤ 100000; decide)) fun q H5 hq e5 h5 => k q H5 (fresh_back (e3.trans e4) hq) ((e3.trans e4).trans e5) h5
end
end Zb
set_option Elab.async false
set_option linter.all false
set_option maxRecDepth 100000
set_option maxHeartbeats 4000000
namespace Zb
open PySem PySem.Spec PyProof.Rows L2 L2.DX Zg Evl
open StX (pa_star tStar)
open RZ (pi_zipA iZipA ItzT)
open Zm (sumE Sq B zl enc dec fw neg Up both less at3 mids rows cols Edge gmin gall EdgeOk Zn NonNeg Clo)

theorem eb_mutn {p l : Addr} {H H1 : Hp} {o : HO} (e : Eb p H H1) (hl : H l = none) : Eb p H (upd H1 l o) := fun a u ha h => by
  rw [upd_ne (ne_of_none h hl)]
  exact e a u ha h
theorem pot_t {K : PySem.W.Frag} {N : Nat} {H H1 : Hp} {p a : Addr} {xs : List V} (hP : PotIn N H p) (e : Eb p H H1) (h : SqT K H a xs) : SqT K H1 a xs := by
  obtain ⟨ys, hp⟩ := hP.at
  exact eb_tt e hp (fun _ z => by cases z) (fun _ _ z => by cases z) h
theorem pot_rw {K : PySem.W.Frag} {N : Nat} {H H1 : Hp} {p : Addr} {as : List Addr} {xss : List (List V)} (hP : PotIn N H p) (e : Eb p H H1) (h : RwAt K H as xss) : RwAt K H1 as xss := ⟨h.1, fun i a xs h1 h2 => pot_t hP e (h.2 i a xs h1 h2)⟩
theorem pot_rT {K : PySem.W.Frag} {N : Nat} {H H1 : Hp} {p q : Addr} {xss : List (List V)} (hP : PotIn N H p) (e : Eb p H H1) (h : RwT K H q xss) : RwT K H1 q xss := by
  obtain ⟨as, h1, h2⟩ := h
  exact ⟨as, pot_t hP e h1, pot_rw hP e h2⟩
theorem pot_d {K : PySem.W.Frag} {N : Nat} {H H1 : Hp} {p d : Addr} {n m : Nat} {S : Sq} (hP : PotIn N H p) (e : Eb p H H1) (h : SqM K H d n m S) : SqM K H1 d n m S := by
  obtain ⟨ys, hp⟩ := hP.at
  refine h.eb e (fun z => ?_) hp (fun _ z => by cases z) (fun _ _ z => by cases z)
  obtain ⟨u, h1, _⟩ := h
  rw [z, hp] at h1
  cases h1
theorem bit_small (b : Bool) : -(2 ^ 64) < (if b then (1 : Int) else 0) ∧ (if b then (1 : Int) else 0) < 2 ^ 64 := by cases b <;> decide
theorem bit_pos (b : Bool) : 0 ≤ (if b then (1 : Int) else 0) := by cases b <;> decide
def is1 (u : Nat) (v : V) : Prop := ∃ d : Nat, 1 ≤ d ∧ d ≤ u ∧ v = .int (d : Int)
section
variable {K : PySem.W.Frag} {σ : L2.St} {H H' : Hp} {ta tb tc td te tv tx : TE} {t u : TT} {x y z v : V} {r : R2} {D : Ends} {tu tw tz : TS}
theorem ep_add1 {p : Addr} {N M k : Nat} (h : EvP p N M te σ (isN k)) : EvP p N M (tOp (rI0 fun i j => .int (i + j)) (tC (.int 1)) te) σ (is1 k) := fun H1 hP Q q =>
  h H1 hP _ fun v H2 hv e2 hP2 => by
    obtain ⟨d, hd, rfl⟩ := hv
    refine ⟨1, (d : Int), rfl, rfl, q _ H2 ⟨d + 1, by omega, by omega, congrArg V.int (by omega)⟩ e2 hP2⟩
/-- for .. in range(a number drawn) -/
theorem s_forRP {p : Addr} {N M k j : Nat} (h : EvP p N M te σ (is1 k)) (hk : k ≤ 1000) (hP : PotIn N H p) (Pv : Nat → L2.St → Hp → Prop) (h0 : ∀ H1, Eb p H H1 → PotIn M H1 p → Pv 0 σ H1)
    (hs : ∀ (i : Nat) σ' H', i < k → Pv i σ' H' → tu { D with nx := Pv (i + 1), ct := Pv (i + 1), bk := D.nx } (σ'.set j (some (.int (i : Int)))) H') (hd : ∀ i σ' H', i ≤ k → Pv i σ' H' → D.nx σ' H') : tFor (iRng1 (tCons te tNil)) (gName j) tu D σ H :=
  h H hP _ fun v H1 hv e hP1 => by
    obtain ⟨d, hd1, hd2, rfl⟩ := hv
    refine ⟨(d : Int), rfl, by omega, by omega, for_range (lo := 0) (n := ((d : Int)).toNat) Pv (h0 H1 e hP1) (fun i σ' H' hi p => ?_) fun σ' H' p => hd d σ' H' hd2 (by rw [Int.toNat_natCast] at p; exact p)⟩
    have e0 : (0 : Int) + (i : Int) = (i : Int) := Int.zero_add _
    show tu { D with nx := Pv (i + 1), ct := Pv (i + 1), bk := D.nx } (σ'.set j (some (.int ((0 : Int) + (i : Int))))) H'
    rw [e0]
    exact hs i σ' H' (by omega) p
theorem q_forRP {p : Addr} {N M k j : Nat} (h : EvP p N M te σ (is1 k)) (hk : k ≤ 1000) (hP : PotIn N H p) (Pv : Nat → L2.St → Hp → Prop) (h0 : ∀ H1, Eb p H H1 → PotIn M H1 p → Pv 0 σ H1)
    (hs : ∀ (i : Nat) σ' H', i < k → Pv i σ' H' → tu { D with nx := Pv (i + 1), ct := Pv (i + 1), bk := tz D } (σ'.set j (some (.int (i : Int)))) H') (hd : ∀ i σ' H', i ≤ k → Pv i σ' H' → tz D σ' H') : tSeq (tFor (iRng1 (tCons te tNil)) (gName j) tu) tz D σ H := s_forRP (D := { D with nx := tz D }) h hk hP Pv h0 hs hd
/-- found.append((.., .., ..)), all drawn -/
theorem s_appP3 {p l : Addr} {N M L O : Nat} {R S Z : V → Prop} {xs : List V} (hl : H l = some (.lst xs)) (hlp : l ≠ p) (hz : xs.length < 100000) (ho : Ev tx σ H (.ref l)) (ha : EvP p N M ta σ R) (hb : EvP p M L tb σ S) (hc : EvP p L O tc σ Z) (hP : PotIn N H p)
    (k : ∀ x y z T H1, R x → S y → Z z → H T = none → Eb p H H1 → PotIn O H1 p → H1 l = some (.lst xs) → H1 T = some (.tup [x, y, z]) → D.nx σ (upd H1 l (.lst (xs ++ [.ref T])))) :
    tDrop (tBM K "list" rAppend tx (tCons (tTup (tCons ta (tCons tb (tCons tc tNil)))) tNil)) D σ H := ho H (Ex.refl H) _ fun H1 e1 =>
  ⟨Or.inl ⟨rfl, xs, sq_of (e1 l _ hl)⟩, ha H1 (hP.ex e1) _ fun x H2 hx e2 hP2 => hb H2 hP2 _ fun y H3 hy e3 hP3 => hc H3 hP3 _ fun z H4 hz' e4 hP4 => ⟨by show 3 ≤ sizeLine; exact sz_of (by decide), fun T hT => by
    have e14 := (Eb.of e1).trans ((e2.trans e3).trans e4)
    have hl4 : H4 l = some (.lst xs) := e14 l _ hlp hl
    obtain ⟨ys, hp4⟩ := hP4.at
    have hTp : T ≠ p := fun q => by
      rw [q, hp4] at hT
      cases hT
    have hl5 : upd H4 T (.tup [x, y, z]) l = some (.lst xs) := (Ex.new hT) l _ hl4
    exact ⟨l, xs, .ref T, rfl, rfl, hl5, sz_lt hz, k x y z T _ hx hy hz' (e14.free hTp hT) (e14.trans (Eb.of (Ex.new hT))) (hP4.ex (Ex.new hT)) hl5 upd_same⟩⟩⟩
theorem ev_sumN {ns : List Int} (h : EvL ta σ H (ns.map V.int)) : Ev (tCB (rSum K) (tCons ta tNil)) σ H (.int ns.sum) := fun H1 e Q q =>
  h H1 e _ fun a H2 _ e2 h2 => ⟨a, ns, rfl, sq_of h2, q H2 e2⟩
end
theorem cutV_ints (ns : List Int) (lo hi : Option Int) : ∃ ms : List Int, cutV (ns.map V.int) lo hi = ms.map V.int := by
  refine ⟨(ns.drop (HT.sIx (ns.map V.int).length 0 lo)).take (HT.sIx (ns.map V.int).length (ns.map V.int).length hi - HT.sIx (ns.map V.int).length 0 lo), ?_⟩
  unfold cutV
  rw [List.map_take, List.map_drop]
section
variable {P : Program} {w : World} {K : PySem.W.Frag} {mg : Str → Option Value} {base : Heap} {aU aC : Addr}
/-! ### guard -/
theorem op_of {y : V} (h : y ∈ [V.str "<", V.str "<=", V.str ">", V.str ">="]) (c k : Nat) : ∃ g : Zm.Gi, g.c = c ∧ g.k = k ∧ y = .str (opS g) := by
  simp only [List.mem_cons, List.not_mem_nil, or_false] at h
  rcases h with rfl | rfl | rfl | rfl
  · exact ⟨⟨c, true, false, k⟩, rfl, rfl, rfl⟩
  · exact ⟨⟨c, true, true, k⟩, rfl, rfl, rfl⟩
  · exact ⟨⟨c, false, false, k⟩, rfl, rfl, rfl⟩
  · exact ⟨⟨c, false, true, k⟩, rfl, rfl, rfl⟩
def spLGuard (K : PySem.W.Frag) : Sp := fun vs H Q _ => ∃ (p : Addr) (N c : Nat), vs = [.ref p, .int c] ∧ PotIn N H p ∧ N ≤ 999900 ∧ 1 ≤ c ∧ c ≤ 3 ∧
  ∀ (g : Addr) (gs : List Zm.Gi) (H2 : Hp), (∀ x ∈ gs, Zm.GiOk (c + 1) x) → gs.length ≤ 4 → H g = none → Eb p H H2 → PotIn (N + 13) H2 p → RwT K H2 g (gs.map gvs) → Q (.ref g) H2
theorem c__law_guard (T : Tx K mg aU aC) (D : Df K mg "_law_guard" s__law_guard ["pot", "clocks"]) (c__law_take : Cl P w K mg base 1 "_law_take" spTake) (c__law_of : Cl P w K mg base 2 "_law_of" (spOf K)) : Cl P w K mg base 3 "_law_guard" (spLGuard K) := by
  refine D.cl sc__law_guard (fun vs H Q E h => by obtain ⟨_, _, _, rfl, _⟩ := h; rfl) (fun f cdv A outer s H vs Q E hr h => ?_)
  obtain ⟨p, N, c, rfl, hP, hN, hc1, hc3, k⟩ := h
  refine ⟨_, (pss_cons (ps_set (i := 2) sc__law_guard.nd rfl (.inl rfl) (pe_lst pa_nil))
      (pss_cons (ps_for PassesOwn.never rfl (pi_range1 (by rfl) T.n_range (pa_cons (pe_op op_add pe_int (pe_cl c__law_take hr (by decide) (by rfl) (pa_cons (pv 0) (pa_cons pe_int pa_nil)))) pa_nil)) (pg_name (i := 3) sc__law_guard.nd rfl (.inl rfl)) (pss_one (ps_expr (pe_bm PySem.F.plainAttrs_list PySem.F.slot_list_append PySem.F.type_list_append mt_append (pv 2) (pa_cons (pe_tup (pa_cons (pe_cl c__law_take hr (by decide) (by rfl) (pa_cons (pv 0) (pa_cons (pv 1) pa_nil))) (pa_cons (pe_cl c__law_of hr (by decide) (by rfl) (pa_cons (pv 0) (pa_cons (pe_lst (pa_cons pe_str (pa_cons pe_str (pa_cons pe_str (pa_cons pe_str pa_nil))))) pa_nil))) (pa_cons (pe_cl c__law_take hr (by decide) (by rfl) (pa_cons (pv 0) (pa_cons pe_int pa_nil))) pa_nil)))) pa_nil)))))
      (pss_one (ps_ret (pe_callTy (tupK (K := K)) (by rfl) T.n_tuple (by decide +kernel) (pa_cons (pv 2) pa_nil)))))), ?_⟩
  refine q_asgL (el_lst ea_nil (by show 0 ≤ 100000; decide)) fun l H1 hl e1 h1l => ?_
  obtain ⟨ys, hp⟩ := hP.at
  have hlp : l ≠ p := fun z => by
    rw [z, hp] at hl
    cases hl
  refine q_forRP (k := 4) (ep_add1 (ep_take (u := 4) (fun _ => ev_var rfl) (fun _ => ev_c) (by omega) (by decide) (by decide))) (by decide) (hP.ex e1) (fun i σ H' => ∃ (y3 : Option V) (as : List Addr) (gs : List Zm.Gi), σ = [some (.ref p), some (.int (c : Int)), some (.ref l), y3] ∧ H' l = some (.lst (as.map V.ref)) ∧ RwAt K H' as (gs.map gvs) ∧ (∀ x ∈ gs, Zm.GiOk (c + 1) x) ∧ gs.length = i ∧ Eb p H H' ∧ PotIn (N + 1 + 3 * i) H' p)
    (fun H2 e2 hP2 => ⟨none, [], [], rfl, e2 l _ hlp h1l, RwAt.nil, fun x hx => (List.not_mem_nil hx).elim, rfl, (Eb.of e1).trans e2, hP2⟩) (fun i σ H2 hi hPv => ?_) (fun i σ H2 hi hPv => ?_)
  · obtain ⟨y3, as, gs, rfl, h2l, hrw, hok, hlen, e2, hP2⟩ := hPv
    have hasl : as.length = i := by
      rw [hrw.1, List.length_map, hlen]
    refine s_appP3 (K := K) h2l hlp (by rw [List.length_map]; omega) (ev_var rfl) (ep_take (u := c) (fun _ => ev_var rfl) (fun _ => ev_var rfl) (by omega) hc1 (by omega)) (ep_of (K := K) (xs := [.str "<", .str "<=", .str ">", .str ">="]) (fun _ => ev_var rfl) (fun _ => el_lst (ea_cons ev_c (ea_cons ev_c (ea_cons ev_c (ea_cons ev_c ea_nil)))) (by show 4 ≤ 100000; decide)) (by omega) (by decide) (by decide)) (ep_take (u := 13) (fun _ => ev_var rfl) (fun _ => ev_c) (by omega) (by decide) (by decide)) hP2 fun x y z Tt H3 hx hy hz hT e3 hP3 h3l h3T => ?_
    obtain ⟨d, hd, rfl⟩ := hx
    obtain ⟨b, hb, rfl⟩ := hz
    obtain ⟨g, hg1, hg2, rfl⟩ := op_of hy d b
    have e4 : Eb l H3 (upd H3 l (.lst (as.map V.ref ++ [.ref Tt]))) := (Eb.refl l H3).upd
    refine ⟨_, as ++ [Tt], gs ++ [g], rfl, ?_, ?_, ?_, ?_, ?_, ?_⟩
    · rw [upd_same, List.map_append]
      rfl
    · rw [List.map_append]
      refine RwAt.snoc ?_ ?_
      · have h1 := pot_rw hP2 e3 hrw
        exact ⟨h1.1, fun i a xs q1 q2 => eb_tt e4 h3l (fun _ z => by cases z) (fun _ _ z => by cases z) (h1.2 i a xs q1 q2)⟩
      · refine eb_tt e4 h3l (fun _ z => by cases z) (fun _ _ z => by cases z) (st_of ?_)
        rw [h3T]
        unfold gvs
        rw [hg1, hg2]
    · intro x hx
      rcases List.mem_append.mp hx with q | q
      · exact hok x q
      · rw [List.mem_singleton.mp q]
        exact ⟨by omega, by omega⟩
    · rw [List.length_append, hlen]
      rfl
    · exact eb_mutn (e2.trans e3) hl
    · obtain ⟨a1, a2, a3, q1, q2⟩ := hP3
      exact PotIn.mono ⟨a1, a2, a3, by rw [upd_ne (Ne.symm hlp)]; exact q1, q2⟩ (by omega)
  · obtain ⟨y3, as, gs, rfl, h2l, hrw, hok, hlen, e2, hP2⟩ := hPv
    refine s_retU (eu_tupL (ev_var rfl) (sq_of h2l)) fun g H3 hg e3 h3 => ?_
    obtain ⟨ys2, hp2⟩ := hP2.at
    exact k g gs H3 hok (by omega) (e2.free (fun z => by rw [z, hp2] at hg; cases hg) hg) (e2.trans (Eb.of e3)) ((hP2.ex e3).mono (by omega)) ⟨as, st_of h3, hrw.ex e3⟩
/-! ### pot_of -/
def spPot (K : PySem.W.Frag) : Sp := fun vs H Q _ => ∃ (s : Addr) (k : Nat) (ns : List Int), vs = [.ref s, .int k] ∧ SqL K H s (ns.map V.int) ∧ k ≤ 10 ∧ ∀ p H2, H p = none → Ex H H2 → PotIn 0 H2 p → Q (.ref p) H2
theorem c__law_pot_of (T : Tx K mg aU aC) (D : Df K mg "_law_pot_of" s__law_pot_of ["script", "k"]) : Cl P w K mg base 1 "_law_pot_of" (spPot K) := by
  refine D.cl sc__law_pot_of (fun vs H Q E h => by obtain ⟨_, _, _, rfl, _⟩ := h; rfl) (fun f cdv A outer s H vs Q E hr h => ?_)
  obtain ⟨sc, kk, ns, rfl, hs, hk, k⟩ := h
  refine ⟨_, (pss_cons (ps_set (i := 2) sc__law_pot_of.nd rfl (.inl rfl) (pe_ifExp (pt_cmpR op_lt (pv 1) (pe_callB (lenK (K := K)) (by rfl) T.n_len PySem.boot_len (pa_cons (pv 0) pa_nil)) (nomark _)) (pe_ix (ixL (K := K)) (pv 0) (pv 1) (fun _ _ => rfl)) (pe_op op_add (pe_op op_add (pe_op op_mod (pe_callTy call_int1 (by rfl) T.n_int (by decide +kernel) (pa_cons (pe_callB (cr_sum rfl) (by rfl) T.n_sum (by decide +kernel) (pa_cons (pe_slice sl_list (pv 0) po_none (po_some pe_int)) pa_nil)) pa_nil)) pe_int) (pe_op op_mul pe_int (pv 1))) pe_int)))
      (pss_cons (ps_set (i := 3) sc__law_pot_of.nd rfl (.inl rfl) (pe_op op_mul (pe_op op_mod (pe_callTy call_int1 (by rfl) T.n_int (by decide +kernel) (pa_cons (pe_callB call_abs (by rfl) T.n_abs (by decide +kernel) (pa_cons (pv 2) pa_nil)) pa_nil)) (pe_op op_powW (pe_op op_powW pe_int pe_int) pe_int)) (pe_callTy call_int1 (by rfl) T.n_int (by decide +kernel) (pa_cons (pe_cmpR op_ge (pe_callB call_abs (by rfl) T.n_abs (by decide +kernel) (pa_cons (pv 2) pa_nil)) (pe_op op_powW pe_int pe_int) (nomark _)) pa_nil))))
      (pss_one (ps_ret (pe_lst (pa_cons (pv 3) (pa_cons (pe_op op_mod (pe_op op_add (pe_op op_add (pe_op op_mul (pe_op op_mod (pe_callTy call_int1 (by rfl) T.n_int (by decide +kernel) (pa_cons (pv 2) pa_nil)) pe_int) pe_int) (pe_op op_mul (pe_op op_mul pe_int (pv 1)) (pv 1))) pe_int) pe_int) (pa_cons pe_int pa_nil)))))))), ?_⟩
  obtain ⟨ms, hms⟩ := cutV_ints ns none (some 1)
  refine q_asg (v := .int (if kk < ns.length then ns.getD kk 0 else ms.sum % 1000003 + 8465 * (kk : Int) + 19)) (ev_if (b := decide (kk < ns.length)) (et_is (et_test (ev_op (ev_var rfl) (ev_len (ev_var rfl) hs) rv_I0)) (by rw [List.length_map, decide_eq_decide]; omega)) (fun hb => ?_) fun hb => ?_) fun H1 e1 => ?_
  · have hb := of_decide_eq_true hb
    rw [if_pos hb]
    refine ev_op (ev_var rfl) (ev_var rfl) (rv_ixL hs (at_of (j := kk) rfl ?_))
    rw [List.getElem?_map, List.getD_eq_getElem?_getD, List.getElem?_eq_getElem hb]
    rfl
  · have hb := of_decide_eq_false hb
    rw [if_neg hb]
    refine ev_op (ev_op (ev_op (ev_int1 (ev_sumN (ns := ms) ?_)) ev_c (rv_I (by decide))) (ev_op ev_c (ev_var rfl) (rv_I (.inl ⟨by decide, by decide⟩))) rv_I0) ev_c rv_I0
    rw [← hms]
    exact el_sl (ev_var rfl) eo_none (eo_some ev_c) hs
  · generalize (if kk < ns.length then ns.getD kk 0 else ms.sum % 1000003 + 8465 * (kk : Int) + 19) = cell
    have hp1 : (0 : Int) ≤ 60 ∧ (Builtin.Int.intBits 10 : Int) * 60 ≤ 2 ^ 27 := ⟨by decide, by decide +kernel⟩
    have hp2 : (0 : Int) ≤ 5 ∧ (Builtin.Int.intBits ((10 : Int) ^ (60 : Int).toNat) : Int) * 5 ≤ 2 ^ 27 := ⟨by decide, by decide +kernel⟩
    have hp3 : (0 : Int) ≤ 18 ∧ (Builtin.Int.intBits 10 : Int) * 18 ≤ 2 ^ 27 := ⟨by decide, by decide +kernel⟩
    have hpos : (0 : Int) < ((10 : Int) ^ (60 : Int).toNat) ^ (5 : Int).toNat := Int.pow_pos (Int.pow_pos (by decide))
    refine q_asg (v := .int ((if cell < 0 then -cell else cell) % ((10 : Int) ^ (60 : Int).toNat) ^ (5 : Int).toNat * (if decide ((if cell < 0 then -cell else cell) ≥ (10 : Int) ^ (18 : Int).toNat) then 1 else 0))) (ev_op (ev_op (ev_int1 (ev_abs (ev_var rfl))) (ev_op (ev_op ev_c ev_c (rv_I hp1)) ev_c (rv_I hp2)) (rv_I hpos)) (ev_int1b (ev_op (ev_abs (ev_var rfl)) (ev_op ev_c ev_c (rv_I hp3)) rv_I0)) (rv_I (.inr (bit_small _)))) fun H2 e2 => ?_
    have hown : 0 ≤ (if cell < 0 then -cell else cell) % ((10 : Int) ^ (60 : Int).toNat) ^ (5 : Int).toNat * (if decide ((if cell < 0 then -cell else cell) ≥ (10 : Int) ^ (18 : Int).toNat) then 1 else 0) := Int.mul_nonneg (Int.emod_nonneg _ (by omega)) (bit_pos _)
    generalize (if cell < 0 then -cell else cell) % ((10 : Int) ^ (60 : Int).toNat) ^ (5 : Int).toNat * (if decide ((if cell < 0 then -cell else cell) ≥ (10 : Int) ^ (18 : Int).toNat) then 1 else 0) = own at hown
    refine s_retL (el_lst (ea_cons (ev_var rfl) (ea_cons (ev_op (ev_op (ev_op (ev_op (ev_op (ev_int1 (ev_var rfl)) ev_c (rv_I (by decide))) ev_c (rv_I (.inr ⟨by decide, by decide⟩))) (ev_op (ev_op ev_c (ev_var rfl) (rv_I (.inl ⟨by decide, by decide⟩))) (ev_var rfl) (rv_I (.inr ⟨by omega, by omega⟩))) rv_I0) ev_c rv_I0) ev_c (rv_I (by decide))) (ea_cons ev_c ea_nil))) (by show 3 ≤ 100000; decide)) fun p H3 hp e3 h3 => ?_
    refine k p H3 (fresh_back (e1.trans e2) hp) ((e1.trans e2).trans e3) ⟨_, _, _, h3, hown, Int.emod_nonneg _ (by decide), ?_, by decide, by decide⟩
    have := Int.emod_lt_of_pos (cell % 2305843009213693951 * 82071 + 8465 * (kk : Int) * (kk : Int) + 41) (show (0 : Int) < 2305843009213693921 by decide)
    exact Int.lt_trans this (by decide)
end
end Zb
set_option Elab.async false
set_option linter.all false
set_option maxRecDepth 100000
set_option maxHeartbeats 4000000
namespace Zb
open PySem PySem.Spec PyProof.Rows L2 L2.DX Zg Evl
open StX (pa_star tStar)
open RZ (pi_zipA iZipA ItzT)
open Zm (sumE Sq B zl enc dec fw neg Up both less at3 mids rows cols Edge gmin gall EdgeOk Zn NonNeg Clo)

/-! ### values, weighed by one number -/
def okL : B → Int → Int → Bool
  | none, _, _ => true
  | some b, d, L => decide (d < b.1 * L) || (decide (d = b.1 * L) && b.2)
structure Rep (n : Nat) (f : Nat → Int × Int) (W : Nat → Int) (L : Int) : Prop where
  pos : 0 < L
  den : ∀ i, i < n → 0 < (f i).2
  eq : ∀ i, i < n → W i * (f i).2 = (f i).1 * L
theorem rep_ok {n : Nat} {f : Nat → Int × Int} {W : Nat → Int} {L : Int} (R : Rep n f W L) {i j : Nat} (hi : i < n) (hj : j < n) (b : B) : okB b (f i) (f j) = okL b (W i - W j) L := by
  cases b with
  | none => rfl
  | some b =>
    have h1 := R.eq i hi
    have h2 := R.eq j hj
    have d1 := R.den i hi
    have d2 := R.den j hj
    have hD : 0 < (f i).2 * (f j).2 := Int.mul_pos d1 d2
    have hL := R.pos
    have e1 : ((f i).1 * (f j).2 - (f j).1 * (f i).2) * L = (W i - W j) * ((f i).2 * (f j).2) := by
      rw [Int.sub_mul, Int.sub_mul, show (f i).1 * (f j).2 * L = (f i).1 * L * (f j).2 by rw [Int.mul_assoc, Int.mul_comm (f j).2 L, ← Int.mul_assoc], ← h1, show (f j).1 * (f i).2 * L = (f j).1 * L * (f i).2 by rw [Int.mul_assoc, Int.mul_comm (f i).2 L, ← Int.mul_assoc], ← h2]
      rw [Int.mul_assoc (W i), Int.mul_assoc (W j), Int.mul_comm (f j).2 (f i).2]
    have e2 : b.1 * (f i).2 * (f j).2 * L = b.1 * L * ((f i).2 * (f j).2) := by
      rw [Int.mul_assoc b.1, Int.mul_assoc b.1, Int.mul_comm ((f i).2 * (f j).2) L, ← Int.mul_assoc b.1 L]
    show (!(decide ((f i).1 * (f j).2 - (f j).1 * (f i).2 > b.1 * (f i).2 * (f j).2) || (decide ((f i).1 * (f j).2 - (f j).1 * (f i).2 = b.1 * (f i).2 * (f j).2) && !b.2))) = (decide (W i - W j < b.1 * L) || (decide (W i - W j = b.1 * L) && b.2))
    generalize (f i).1 * (f j).2 - (f j).1 * (f i).2 = gap at e1 ⊢
    generalize b.1 * (f i).2 * (f j).2 = most at e2 ⊢
    generalize (f i).2 * (f j).2 = D at hD e1 e2
    generalize W i - W j = w at e1 ⊢
    have k1 : gap > most ↔ w > b.1 * L := by
      constructor
      · intro h
        have h3 : most * L < gap * L := Int.mul_lt_mul_of_pos_right h hL
        rw [e1, e2] at h3
        exact Int.lt_of_mul_lt_mul_right h3 (Int.le_of_lt hD)
      · intro h
        have h3 : b.1 * L * D < w * D := Int.mul_lt_mul_of_pos_right h hD
        rw [← e1, ← e2] at h3
        exact Int.lt_of_mul_lt_mul_right h3 (Int.le_of_lt hL)
    have k2 : gap = most ↔ w = b.1 * L := by
      constructor
      · intro h
        rw [h, e2] at e1
        exact (Int.eq_of_mul_eq_mul_right (by omega) e1).symm
      · intro h
        rw [h, ← e2] at e1
        exact Int.eq_of_mul_eq_mul_right (by omega) e1
    rw [decide_eq_decide.mpr k1, decide_eq_decide.mpr k2]
    rcases Int.lt_trichotomy w (b.1 * L) with h | h | h
    · rw [decide_eq_true h, decide_eq_false (by omega : ¬ w > b.1 * L), decide_eq_false (by omega : ¬ w = b.1 * L)]
      rfl
    · rw [decide_eq_true h, decide_eq_false (by omega : ¬ w > b.1 * L), decide_eq_false (by omega : ¬ w < b.1 * L)]
      cases b.2 <;> rfl
    · rw [decide_eq_false (by omega : ¬ w < b.1 * L), decide_eq_true (by omega : w > b.1 * L), decide_eq_false (by omega : ¬ w = b.1 * L)]
      rfl
theorem okL_mono {a b : B} {d L : Int} (hL : 0 < L) (h : Zm.le a b) (k : okL a d L = true) : okL b d L = true := by
  cases b with
  | none => rfl
  | some b =>
    cases a with
    | none => exact absurd h Zm.not_none_le
    | some a =>
      have h := Zm.le_some.mp h
      obtain ⟨i, p⟩ := a
      obtain ⟨j, q⟩ := b
      simp only [okL, Bool.or_eq_true, Bool.and_eq_true, decide_eq_true_eq] at k ⊢
      have h : 2 * i + (if p then 1 else 0) ≤ 2 * j + (if q then 1 else 0) := h
      by_cases z : i < j
      · have h3 : i * L < j * L := Int.mul_lt_mul_of_pos_right z hL
        left
        rcases k with k | ⟨k, _⟩ <;> omega
      · have e : i = j := by
          cases p <;> cases q <;> simp at h <;> omega
        subst e
        rcases k with k | ⟨k, hp⟩
        · exact .inl k
        · subst hp
          cases q with
          | true => exact .inr ⟨k, rfl⟩
          | false =>
            have h : 2 * i + 1 ≤ 2 * i + 0 := h
            omega
theorem okL_both {a b : B} {d e L : Int} (h : okL a d L = true) (k : okL b e L = true) : okL (both a b) (d + e) L = true := by
  cases a with
  | none => rw [Zm.both_none_l]; rfl
  | some a => cases b with
    | none => rw [Zm.both_none_r]; rfl
    | some b =>
      obtain ⟨i, p⟩ := a
      obtain ⟨j, q⟩ := b
      simp only [okL, both, Bool.or_eq_true, Bool.and_eq_true, decide_eq_true_eq] at h k ⊢
      rw [Int.add_mul]
      rcases h with h | ⟨h, hp⟩ <;> rcases k with k | ⟨k, hq⟩
      · left; omega
      · left; omega
      · left; omega
      · right; exact ⟨by omega, hp, hq⟩
def SatL (n : Nat) (S : Sq) (W : Nat → Int) (L : Int) : Prop := ∀ i j, i < n → j < n → okL (S i j) (W i - W j) L = true
theorem holds_iff {n : Nat} {f : Nat → Int × Int} {W : Nat → Int} {L : Int} (R : Rep n f W L) (S : Sq) : holdsB n S f = true ↔ SatL n S W L := by
  unfold holdsB SatL
  rw [List.all_eq_true]
  constructor
  · intro h i j hi hj
    have h1 := h i (List.mem_range.mpr hi)
    rw [List.all_eq_true] at h1
    have h2 := h1 j (List.mem_range.mpr hj)
    rw [rep_ok R hi hj] at h2
    exact h2
  · intro h i hi
    rw [List.all_eq_true]
    intro j hj
    rw [rep_ok R (List.mem_range.mp hi) (List.mem_range.mp hj)]
    exact h i j (List.mem_range.mp hi) (List.mem_range.mp hj)
theorem satL_mono {n : Nat} {S T : Sq} {W : Nat → Int} {L : Int} (hL : 0 < L) (h : SatL n S W L) (l : ∀ i j, i < n → j < n → Zm.le (S i j) (T i j)) : SatL n T W L := fun i j hi hj => okL_mono hL (l i j hi hj) (h i j hi hj)
theorem satL_fw {n : Nat} {S : Sq} {W : Nat → Int} {L : Int} (h : SatL n S W L) : SatL n (fw n S) W L := Zm.fw_keep (P := fun T => SatL n T W L) (fun k i j T hk hi hj p a b ha hb => by
  unfold Zm.step
  split
  · by_cases z : a = i ∧ b = j
    · rw [z.1, z.2, Zm.put_same]
      have e := okL_both (p i k hi hk) (p k j hk hj)
      rw [show W i - W k + (W k - W j) = W i - W j by omega] at e
      exact e
    · rw [Zm.put_ne z]
      exact p a b ha hb
  · exact p a b ha hb) h
theorem satL_fw_iff {n : Nat} {S : Sq} {W : Nat → Int} {L : Int} (hL : 0 < L) : SatL n (fw n S) W L ↔ SatL n S W L := ⟨fun h => satL_mono hL h fun i j _ _ => Zm.fw_le n S i j, satL_fw⟩
theorem satL_gall {n : Nat} {S : Sq} {W : Nat → Int} {L : Int} {es : List Edge} (hL : 0 < L) (ok : ∀ e ∈ es, e.i < n ∧ e.j < n) : SatL n (gall S es) W L ↔ SatL n S W L ∧ ∀ e ∈ es, okL (some e.b) (W e.i - W e.j) L = true := by
  constructor
  · intro h
    refine ⟨satL_mono hL h fun i j _ _ => Zm.gall_le S es i j, fun e he => okL_mono hL (Zm.gall_edge he) (h e.i e.j (ok e he).1 (ok e he).2)⟩
  · rintro ⟨h1, h2⟩ i j hi hj
    rcases Zm.gall_cases (es := es) (S := S) (a := i) (b := j) with e | ⟨e, he, e1, e2, e3⟩
    · rw [e]
      exact h1 i j hi hj
    · rw [e3, e1, e2]
      exact h2 e he
theorem satL_nonneg {n : Nat} {S : Sq} {W : Nat → Int} {L : Int} (hL : 0 < L) (h : SatL n S W L) : neg n S = false := by
  refine Zm.neg_iff.mpr fun i hi => ?_
  have e := h i i hi hi
  rw [Int.sub_self] at e
  cases hS : S i i with
  | none => exact Zm.le_none _
  | some b =>
    rw [hS] at e
    obtain ⟨k, p⟩ := b
    simp only [okL, Bool.or_eq_true, Bool.and_eq_true, decide_eq_true_eq] at e
    refine Zm.le_some.mpr ?_
    show 2 * (0 : Int) + 1 ≤ 2 * k + (if p then 1 else 0)
    by_cases z : 0 < k
    · split <;> omega
    · have h1 : k * L ≤ 0 := Int.mul_nonpos_of_nonpos_of_nonneg (by omega) (Int.le_of_lt hL)
      rcases e with e | ⟨e, hp⟩
      · omega
      · subst hp
        have h2 : k = 0 := by
          rcases Int.mul_eq_zero.mp e.symm with q | q
          · exact q
          · omega
        subst h2
        decide
/-! ### the law of guards -/
theorem okL_nil {d L : Int} : okL Zm.nil d L = decide (d ≤ 0) := by
  show (decide (d < 0 * L) || (decide (d = 0 * L) && true)) = decide (d ≤ 0)
  rw [Int.zero_mul, Bool.and_true, ← Bool.decide_or, decide_eq_decide]
  omega
theorem free_sat {n : Nat} {W : Nat → Int} {L : Int} (h0 : W 0 = 0) (hW : ∀ i, i < n → 0 ≤ W i) : SatL n freeS W L := fun i j hi hj => by
  unfold freeS
  split
  · rename_i h
    rw [okL_nil, decide_eq_true_eq]
    have h1 := hW j hj
    rcases h with h | h
    · rw [h, h0]
      omega
    · rw [h]
      omega
  · rfl
/-- a value is in what is told just when it was in before, and the guard alone has it -/
theorem guard_law {n : Nat} {f : Nat → Int × Int} {W : Nat → Int} {L : Int} (R : Rep n f W L) {S : Sq} {es : List Edge} (h0 : W 0 = 0) (hW : ∀ i, i < n → 0 ≤ W i) (ok : ∀ e ∈ es, e.i < n ∧ e.j < n) :
    holdsB n (fw n (gall S es)) f = (holdsB n S f && (!neg n (fw n (gall freeS es)) && holdsB n (fw n (gall freeS es)) f)) := by
  rw [Bool.eq_iff_iff, Bool.and_eq_true, Bool.and_eq_true, Bool.not_eq_true', holds_iff R, holds_iff R, holds_iff R, satL_fw_iff R.pos, satL_fw_iff R.pos, satL_gall R.pos ok, satL_gall R.pos ok]
  constructor
  · rintro ⟨h1, h2⟩
    have h3 : SatL n (gall freeS es) W L := (satL_gall R.pos ok).mpr ⟨free_sat h0 hW, h2⟩
    exact ⟨h1, satL_nonneg R.pos (satL_fw h3), free_sat h0 hW, h2⟩
  · rintro ⟨h1, _, _, h2⟩
    exact ⟨h1, h2⟩
/-! ### values as they are given -/
def wOf (f : Nat → Int × Int) : Nat → Int
  | 0 => (f 0).1 * ((f 1).2 * (f 2).2 * (f 3).2)
  | 1 => (f 1).1 * ((f 0).2 * (f 2).2 * (f 3).2)
  | 2 => (f 2).1 * ((f 0).2 * (f 1).2 * (f 3).2)
  | 3 => (f 3).1 * ((f 0).2 * (f 1).2 * (f 2).2)
  | _ => 0
def lOf (f : Nat → Int × Int) : Int := (f 0).2 * (f 1).2 * (f 2).2 * (f 3).2
theorem rep_of {n : Nat} {f : Nat → Int × Int} (hn : n ≤ 4) (h : ∀ i, 0 < (f i).2) : Rep n f (wOf f) (lOf f) := by
  refine ⟨Int.mul_pos (Int.mul_pos (Int.mul_pos (h 0) (h 1)) (h 2)) (h 3), fun i _ => h i, fun i hi => ?_⟩
  have : i = 0 ∨ i = 1 ∨ i = 2 ∨ i = 3 := by omega
  unfold lOf
  rcases this with rfl | rfl | rfl | rfl <;> simp only [wOf, Int.mul_assoc, Int.mul_comm, Int.mul_left_comm]
end Zb
set_option Elab.async false
set_option linter.all false
set_option maxRecDepth 100000
set_option maxHeartbeats 4000000
namespace Zb
open PySem PySem.Spec PyProof.Rows L2 L2.DX Zg Evl
open StX (pa_star tStar)
open RZ (pi_zipA iZipA ItzT)
open Zm (sumE Sq B zl enc dec fw neg Up both less at3 mids rows cols Edge gmin gall EdgeOk Zn NonNeg Clo)

/-! ### later values -/
def plv (b q : Int × Int) : Int × Int := redu (q.1 * b.2 + b.1 * q.2) (q.2 * b.2)
def bkv (ps : List Nat) (qs : List (Int × Int)) : List (Int × Int) := (List.range qs.length).map fun i => if i ∈ ps then (0, 1) else qs.getD i (0, 1)
theorem okL_scale {b : B} {d d' L c : Int} (hc : 0 < c) (hd : d' ≤ d * c) (h : okL b d L = true) : okL b d' (L * c) = true := by
  cases b with
  | none => rfl
  | some b =>
    obtain ⟨k, p⟩ := b
    simp only [okL, Bool.or_eq_true, Bool.and_eq_true, decide_eq_true_eq] at h ⊢
    rw [← Int.mul_assoc]
    rcases h with h | ⟨h, hp⟩
    · have h1 : d * c < k * L * c := Int.mul_lt_mul_of_pos_right h hc
      left
      omega
    · rw [h] at hd
      by_cases z : d' < k * L * c
      · exact .inl z
      · exact .inr ⟨by omega, hp⟩
theorem ev0_succ (qs : List (Int × Int)) (i : Nat) : ev0 qs (i + 1) = qs.getD i (0, 1) := rfl
theorem ev0_zero (qs : List (Int × Int)) : ev0 qs 0 = (0, 1) := rfl
theorem ev0_map {qs : List (Int × Int)} {g : Int × Int → Int × Int} {i : Nat} (h : i < qs.length) : ev0 (qs.map g) (i + 1) = g (ev0 qs (i + 1)) := by
  rw [ev0_succ, ev0_succ, List.getD_eq_getElem?_getD, List.getD_eq_getElem?_getD, List.getElem?_map, List.getElem?_eq_getElem h]
  rfl
theorem fr_all {qs : List (Int × Int)} (h : ∀ q ∈ qs, FrOk q) (i : Nat) : 0 < (ev0 qs i).2 := by
  have := (ev0_ok h i).l0
  omega
theorem sm_all {qs : List (Int × Int)} (h : ∀ q ∈ qs, SmFr q) {i : Nat} (hi : i < qs.length) : SmFr (ev0 qs (i + 1)) := by
  rw [ev0_succ, List.getD_eq_getElem?_getD, List.getElem?_eq_getElem hi]
  exact h _ (List.getElem_mem hi)
theorem wOf_zero (qs : List (Int × Int)) : wOf (ev0 qs) 0 = 0 := by
  show (0 : Int) * _ = 0
  rw [Int.zero_mul]
theorem wOf_nonneg {qs : List (Int × Int)} {n : Nat} (hn : n ≤ 4) (h : ∀ q ∈ qs, FrOk q) : ∀ i, i < n → 0 ≤ wOf (ev0 qs) i := fun i hi => by
  have d := fr_all h
  have p := fun i => (ev0_ok h i).t0
  have : i = 0 ∨ i = 1 ∨ i = 2 ∨ i = 3 := by omega
  rcases this with rfl | rfl | rfl | rfl
  · exact Int.mul_nonneg (p 0) (Int.le_of_lt (Int.mul_pos (Int.mul_pos (d 1) (d 2)) (d 3)))
  · exact Int.mul_nonneg (p 1) (Int.le_of_lt (Int.mul_pos (Int.mul_pos (d 0) (d 2)) (d 3)))
  · exact Int.mul_nonneg (p 2) (Int.le_of_lt (Int.mul_pos (Int.mul_pos (d 0) (d 1)) (d 3)))
  · exact Int.mul_nonneg (p 3) (Int.le_of_lt (Int.mul_pos (Int.mul_pos (d 0) (d 1)) (d 2)))
theorem later_eq {W t l L bt bl r1 r2 g : Int} (hg : 0 < g) (h1 : W * l = t * L) (h2 : r1 * g = t * bl + bt * l) (h3 : r2 * g = l * bl) : (W * bl + bt * L) * r2 = r1 * (L * bl) := by
  refine Int.eq_of_mul_eq_mul_right (show g ≠ 0 by omega) ?_
  rw [Int.mul_assoc, h3, show r1 * (L * bl) * g = r1 * g * (L * bl) by rw [Int.mul_assoc, Int.mul_comm (L * bl) g, ← Int.mul_assoc], h2, Int.add_mul, Int.add_mul]
  rw [show W * bl * (l * bl) = W * l * (bl * bl) by simp only [Int.mul_assoc, Int.mul_comm, Int.mul_left_comm], h1]
  simp only [Int.mul_assoc, Int.mul_comm, Int.mul_left_comm]
theorem later_law {n : Nat} {S : Sq} {qs : List (Int × Int)} {b : Int × Int} (hq : qs.length + 1 = n) (hn : n ≤ 4) (hs : ∀ q ∈ qs, SmFr q) (hb : SmFr b) (h : holdsB n S (ev0 qs) = true) : holdsB n (Zm.lat S) (ev0 (qs.map (plv b))) = true := by
  have hfr : ∀ q ∈ qs, FrOk q := fun q hq => (hs q hq).ok
  have R := rep_of (n := n) hn (fr_all hfr)
  rw [holds_iff R] at h
  have hbt := hb.t0
  have hbl : 0 < b.2 := by
    have := hb.l0
    omega
  have hL := R.pos
  have hbL : 0 ≤ b.1 * lOf (ev0 qs) := Int.mul_nonneg hbt (Int.le_of_lt hL)
  have R2 : Rep n (ev0 (qs.map (plv b))) (fun i => if i = 0 then 0 else wOf (ev0 qs) i * b.2 + b.1 * lOf (ev0 qs)) (lOf (ev0 qs) * b.2) := by
    refine ⟨Int.mul_pos hL hbl, fun i hi => ?_, fun i hi => ?_⟩
    · cases i with
      | zero => exact (by decide : (0 : Int) < 1)
      | succ i =>
        rw [ev0_map (by omega)]
        have hsm := sm_all hs (show i < qs.length by omega)
        have := (plus_ok hsm hb).l0
        show 0 < (redu _ _).2
        omega
    · cases i with
      | zero =>
        rw [if_pos rfl, ev0_zero, Int.zero_mul, Int.zero_mul]
      | succ i =>
        rw [if_neg (by omega), ev0_map (by omega)]
        have hsm := sm_all hs (show i < qs.length by omega)
        obtain ⟨p1, p2, p3, p4⟩ := plus_bd hsm hb
        obtain ⟨_, _, _, _, _, r6, r7⟩ := redu_ok p1 p3
        refine later_eq (g := ((Nat.gcd ((ev0 qs (i + 1)).1 * b.2 + b.1 * (ev0 qs (i + 1)).2).natAbs ((ev0 qs (i + 1)).2 * b.2).natAbs : Nat) : Int)) ?_ (R.eq (i + 1) hi) r6 r7
        have : 0 < Nat.gcd ((ev0 qs (i + 1)).1 * b.2 + b.1 * (ev0 qs (i + 1)).2).natAbs ((ev0 qs (i + 1)).2 * b.2).natAbs := Nat.gcd_pos_of_pos_right _ (by omega)
        omega
  rw [holds_iff R2]
  intro i j hi hj
  have hij := h i j hi hj
  unfold Zm.lat
  split
  · rfl
  · rename_i hne
    refine okL_scale hbl ?_ hij
    have w0 := wOf_zero qs
    by_cases z : i = 0
    · subst z
      by_cases y : j = 0
      · subst y
        simp
      · show (if 0 = 0 then 0 else wOf (ev0 qs) 0 * b.2 + b.1 * lOf (ev0 qs)) - (if j = 0 then 0 else wOf (ev0 qs) j * b.2 + b.1 * lOf (ev0 qs)) ≤ (wOf (ev0 qs) 0 - wOf (ev0 qs) j) * b.2
        rw [if_pos rfl, if_neg y, w0, Int.sub_mul, Int.zero_mul]
        omega
    · have y : j ≠ 0 := fun y => hne ⟨y, by omega⟩
      show (if i = 0 then 0 else wOf (ev0 qs) i * b.2 + b.1 * lOf (ev0 qs)) - (if j = 0 then 0 else wOf (ev0 qs) j * b.2 + b.1 * lOf (ev0 qs)) ≤ (wOf (ev0 qs) i - wOf (ev0 qs) j) * b.2
      rw [if_neg z, if_neg y, Int.sub_mul]
      omega
/-! ### clocks put back -/
theorem sb_sat {n a : Nat} {S : Sq} {W : Nat → Int} {L : Int} (h0 : W 0 = 0) (ha : 1 ≤ a) (hn : 0 < n) (h : SatL n S W L) : SatL n (Zm.sb a S) (fun i => if i = a then 0 else W i) L := fun i j hi hj => by
  unfold Zm.sb
  by_cases p : i = a
  · by_cases q : j = a
    · rw [if_neg (by omega), if_neg (by omega)]
      have e := h i j hi hj
      simp only [p, q, if_true, Int.sub_self] at e ⊢
      exact e
    · rw [if_pos ⟨p, q⟩]
      have e := h 0 j hn hj
      simp only [p, q, if_true, if_false, h0] at e ⊢
      exact e
  · by_cases q : j = a
    · rw [if_neg (by omega), if_pos ⟨q, p⟩]
      have e := h i 0 hi hn
      simp only [p, q, if_true, if_false, h0] at e ⊢
      exact e
    · rw [if_neg (by omega), if_neg (by omega)]
      have e := h i j hi hj
      simp only [p, q, if_false]
      exact e
def wAll (W : Nat → Int) (ps : List Nat) : Nat → Int := ps.foldl (fun W p => fun i => if i = p + 1 then 0 else W i) W
theorem wAll_at : ∀ (ps : List Nat) (W : Nat → Int) (i : Nat), wAll W ps i = if 1 ≤ i ∧ i - 1 ∈ ps then 0 else W i
  | [], W, i => by simp [wAll]
  | p :: ps, W, i => by
    show wAll (fun i => if i = p + 1 then 0 else W i) ps i = _
    rw [wAll_at ps]
    by_cases h : 1 ≤ i ∧ i - 1 ∈ ps
    · rw [if_pos h, if_pos ⟨h.1, List.mem_cons_of_mem _ h.2⟩]
    · rw [if_neg h]
      by_cases e : i = p + 1
      · rw [if_pos e, if_pos ⟨by omega, by rw [e]; simp⟩]
      · rw [if_neg e, if_neg]
        rintro ⟨h1, h2⟩
        rcases List.mem_cons.mp h2 with q | q
        · omega
        · exact h ⟨h1, q⟩
theorem sbAll_sat {n : Nat} {L : Int} (hn : 0 < n) : ∀ (ps : List Nat) (S : Sq) (W : Nat → Int), W 0 = 0 → SatL n S W L → SatL n (Zm.sbAll S ps) (wAll W ps) L
  | [], S, W, _, h => h
  | p :: ps, S, W, h0, h => sbAll_sat hn ps (Zm.sb (p + 1) S) (fun i => if i = p + 1 then 0 else W i) (by show (if 0 = p + 1 then 0 else W 0) = 0; rw [if_neg (by omega)]; exact h0) (sb_sat h0 (by omega) hn h)
theorem bkv_at {ps : List Nat} {qs : List (Int × Int)} {i : Nat} (h : i < qs.length) : ev0 (bkv ps qs) (i + 1) = if i ∈ ps then (0, 1) else ev0 qs (i + 1) := by
  rw [ev0_succ, ev0_succ]
  unfold bkv
  rw [List.getD_eq_getElem?_getD, List.getElem?_map, List.getElem?_range h]
  rfl
theorem back_law {n : Nat} {S : Sq} {qs : List (Int × Int)} {ps : List Nat} (hq : qs.length + 1 = n) (hn : n ≤ 4) (hs : ∀ q ∈ qs, FrOk q) (h : holdsB n S (ev0 qs) = true) : holdsB n (Zm.sbAll S ps) (ev0 (bkv ps qs)) = true := by
  have R := rep_of (n := n) hn (fr_all hs)
  rw [holds_iff R] at h
  have R2 : Rep n (ev0 (bkv ps qs)) (wAll (wOf (ev0 qs)) ps) (lOf (ev0 qs)) := by
    refine ⟨R.pos, fun i hi => ?_, fun i hi => ?_⟩
    · cases i with
      | zero => exact (by decide : (0 : Int) < 1)
      | succ i =>
        rw [bkv_at (by omega)]
        split
        · decide
        · exact R.den _ hi
    · rw [wAll_at]
      cases i with
      | zero =>
        rw [if_neg (by omega), ev0_zero]
        have := R.eq 0 hi
        rw [ev0_zero] at this
        exact this
      | succ i =>
        rw [bkv_at (by omega)]
        by_cases z : i ∈ ps
        · rw [if_pos ⟨by omega, z⟩, if_pos z, Int.zero_mul, Int.zero_mul]
        · rw [if_neg (fun y => z y.2), if_neg z]
          exact R.eq _ hi
  rw [holds_iff R2]
  exact sbAll_sat (by omega) ps S _ (wOf_zero qs) h
/-! ### zones that come of zones -/
theorem zn_lat {n : Nat} {U : Int} {S : Sq} (z : Zn n U S) : Zn n U (Zm.lat S) where
  diag := fun i hi => by
    unfold Zm.lat
    rw [if_neg (by omega)]
    exact z.diag i hi
  row := fun j hj => by
    unfold Zm.lat
    rw [if_neg (by omega)]
    exact z.row j hj
  clo := fun i j m hi hj hm => by
    have up : ∀ a b, Zm.le (S a b) (Zm.lat S a b) := fun a b => by
      unfold Zm.lat
      split
      · exact Zm.le_none _
      · exact Zm.le_refl _
    by_cases p : j = 0 ∧ 1 ≤ i
    · have e : both (Zm.lat S i m) (Zm.lat S m j) = none := by
        by_cases q : m = 0
        · have : Zm.lat S i m = none := by
            unfold Zm.lat
            rw [if_pos ⟨q, p.2⟩]
          rw [this, Zm.both_none_l]
        · have : Zm.lat S m j = none := by
            unfold Zm.lat
            rw [if_pos ⟨p.1, by omega⟩]
          rw [this, Zm.both_none_r]
      rw [e]
      exact Zm.le_none _
    · have e : Zm.lat S i j = S i j := by
        unfold Zm.lat
        rw [if_neg p]
      rw [e]
      exact Zm.le_trans (z.clo i j m hi hj hm) (Zm.both_mono (up i m) (up m j))
  bd := fun i j hi hj x hx => by
    unfold Zm.lat at hx
    split at hx
    · cases hx
    · exact z.bd i j hi hj x hx
theorem zn_sb {n a : Nat} {U : Int} {S : Sq} (z : Zn n U S) (hn : 0 < n) (ha : 1 ≤ a) (han : a < n) : Zn n U (Zm.sb a S) := by
  have e : ∀ i j, i < n → j < n → Zm.sb a S i j = S (if i = a then 0 else i) (if j = a then 0 else j) := fun i j hi hj => by
    unfold Zm.sb
    by_cases p : i = a
    · by_cases q : j = a
      · rw [if_neg (by omega), if_neg (by omega), if_pos p, if_pos q, p, q, z.diag a han, z.diag 0 hn]
      · rw [if_pos ⟨p, q⟩, if_pos p, if_neg q]
    · by_cases q : j = a
      · rw [if_neg (by omega), if_pos ⟨q, p⟩, if_neg p, if_pos q]
      · rw [if_neg (by omega), if_neg (by omega), if_neg p, if_neg q]
  have lt : ∀ i, i < n → (if i = a then 0 else i) < n := fun i hi => by split <;> omega
  refine ⟨fun i hi => ?_, fun j hj => ?_, fun i j m hi hj hm => ?_, fun i j hi hj x hx => ?_⟩
  · rw [e i i hi hi]
    exact z.diag _ (lt i hi)
  · rw [e 0 j hn hj, if_neg (by omega)]
    exact z.row _ (lt j hj)
  · rw [e i j hi hj, e i m hi hm, e m j hm hj]
    exact z.clo _ _ _ (lt i hi) (lt j hj) (lt m hm)
  · rw [e i j hi hj] at hx
    exact z.bd _ _ (lt i hi) (lt j hj) x hx
theorem zn_sbAll {n : Nat} {U : Int} (hn : 0 < n) : ∀ (ps : List Nat) {S : Sq}, Zn n U S → (∀ p ∈ ps, p + 1 < n) → Zn n U (Zm.sbAll S ps)
  | [], S, z, _ => z
  | p :: ps, S, z, h => zn_sbAll hn ps (S := Zm.sb (p + 1) S) (zn_sb z hn (by omega) (h p (List.mem_cons_self ..))) fun q hq => h q (List.mem_cons_of_mem _ hq)
theorem zn_start (n : Nat) : Zn n 0 (fun _ _ => Zm.nil) := ⟨fun _ _ => rfl, fun _ _ => Zm.le_refl _, fun _ _ _ _ _ _ => Zm.le_refl _, fun i j _ _ x hx => by
  have e : ((0 : Int), true) = x := Option.some.inj hx
  rw [← e]
  decide⟩
theorem Zn.Bd {n : Nat} {U c : Int} {S : Sq} (z : Zn n U S) (h : U ≤ c) : Zb.Bd c n S := fun i j hi hj x hx => by
  have := z.bd i j hi hj x hx
  omega
theorem enc1 {b : B} (h : ∀ x, b = some x → x.1 ≤ 400000) : decide (enc b > 1) = less Zm.nil b := by
  have e := Zm.less_enc (a := Zm.nil) (b := b) (fun x hx => by rw [← Option.some.inj hx]; decide) h
  rw [e]
  rfl
theorem zoneB_zn {n : Nat} {U : Int} {S : Sq} (z : Zn n U S) (hU : U ≤ 1000) (hn : 0 < n) : zoneB n S = true := by
  have hf : fw n S = S := Zm.fw_of_clo z.clo
  unfold zoneB
  rw [hf, Zm.neg_iff.mpr z.nonneg]
  have h1 : ((List.range n).any fun j => decide (enc (S 0 j) > 1)) = false := by
    rw [List.any_eq_false]
    intro j hj
    have hj := List.mem_range.mp hj
    rw [enc1 fun x hx => by have := z.bd 0 j hn hj x hx; omega]
    have := z.row j hj
    unfold Zm.le at this
    rw [this]
    decide
  have h2 : ((List.range n).all fun i => decide (enc (S i i) = 1)) = true := by
    rw [List.all_eq_true]
    intro i hi
    rw [z.diag i (List.mem_range.mp hi)]
    rfl
  rw [h1, h2]
  simp
theorem zone_law {n : Nat} {S : Sq} (hb : Bd 1000 n S) (hn : n ≤ 4) (h0 : 0 < n) : zoneB n S = lawB n S := by
  unfold zoneB lawB
  have hup : Up 16000 n (fw n S) := Zm.up_fw hn hb.up
  have e1 : ((List.range n).all fun i => decide (S i i = Zm.nil) && !less Zm.nil (S 0 i)) = (!((List.range n).any fun j => decide (enc (S 0 j) > 1)) && ((List.range n).all fun i => decide (enc (S i i) = 1))) := by
    rw [Bool.eq_iff_iff, Bool.and_eq_true, Bool.not_eq_true', List.all_eq_true, List.any_eq_false, List.all_eq_true]
    have en : ∀ i, i < n → decide (enc (S i i) = 1) = decide (S i i = Zm.nil) := fun i hi => by
      rw [decide_eq_decide]
      constructor
      · intro h
        cases hS : S i i with
        | none =>
          rw [hS] at h
          cases h
        | some x =>
          rw [hS] at h
          have : x = (0, true) := Zm.enc_inj (by rw [h]; rfl)
          rw [this]
          rfl
      · intro h
        rw [h]
        rfl
    constructor
    · intro h
      refine ⟨fun j hj => ?_, fun i hi => ?_⟩
      · have hj' := List.mem_range.mp hj
        rw [enc1 fun x hx => by have := hb 0 j h0 hj' x hx; omega]
        have := h j hj
        rw [Bool.and_eq_true] at this
        simpa using this.2
      · have hi' := List.mem_range.mp hi
        rw [en i hi']
        have := h i hi
        rw [Bool.and_eq_true] at this
        exact this.1
    · rintro ⟨h1, h2⟩ i hi
      have hi' := List.mem_range.mp hi
      rw [Bool.and_eq_true]
      refine ⟨by rw [← en i hi']; exact h2 i hi, ?_⟩
      have := h1 i hi
      rw [enc1 fun x hx => by have := hb 0 i h0 hi' x hx; omega] at this
      simpa using this
  have e2 : decide (zl n (fw n S) = zl n S) = (List.range (n * n)).all fun p => decide (fw n S (p / n) (p % n) = S (p / n) (p % n)) := by
    rw [Bool.eq_iff_iff, decide_eq_true_eq, List.all_eq_true]
    constructor
    · intro h p hp
      have hp' := List.mem_range.mp hp
      have h1 := Zm.zl_at (n := n) (S := fw n S) hp'
      have h2 := Zm.zl_at (n := n) (S := S) hp'
      rw [h, h2] at h1
      have h3 := Option.some.inj h1
      rw [decide_eq_true_eq]
      have hi := Zm.div_lt_of hp'
      have hj := Zm.mod_lt_of hp'
      have u1 := hup _ _ hi hj
      have u2 := hb _ _ hi hj
      cases hA : fw n S (p / n) (p % n) with
      | none => cases hB : S (p / n) (p % n) with
        | none => rfl
        | some y =>
          rw [hA, hB] at h3
          have := Zm.enc_le y
          have := u2 y hB
          have : enc (some y) = 1000000 := h3
          omega
      | some x => cases hB : S (p / n) (p % n) with
        | none =>
          rw [hA, hB] at h3
          have := Zm.enc_le x
          have := u1 x hA
          have : (1000000 : Int) = enc (some x) := h3
          omega
        | some y =>
          rw [hA, hB] at h3
          rw [Zm.enc_inj h3]
    · intro h
      unfold zl
      refine List.map_congr_left fun p hp => ?_
      rw [of_decide_eq_true (h p hp)]
  rw [e1, e2]
theorem enc_mono {a b : B} (h : Zm.le a b) (ha : ∀ x, a = some x → x.1 ≤ 400000) (hb : ∀ x, b = some x → x.1 ≤ 400000) : enc a ≤ enc b := by
  have e := Zm.less_enc hb ha
  unfold Zm.le at h
  rw [h] at e
  have := of_decide_eq_false e.symm
  omega
theorem ints_le {n : Nat} {S R : Sq} (h : ∀ i j, i < n → j < n → Zm.le (S i j) (R i j)) (hS : Bd 1000 n S) (hR : Bd 1000 n R) : intsLe (zl n S) (zl n R) = true := by
  unfold intsLe
  rw [List.all_eq_true]
  intro q hq
  obtain ⟨i, hi⟩ := List.mem_iff_getElem?.mp hq
  obtain ⟨h1, h2⟩ := List.getElem?_zip_eq_some.mp hi
  have hin : i < n * n := by
    have := (List.getElem?_eq_some_iff.mp h1).1
    rw [Zm.zl_len] at this
    exact this
  rw [Zm.zl_at hin] at h1 h2
  rw [← Option.some.inj h1, ← Option.some.inj h2, decide_eq_true_eq]
  have a := Zm.div_lt_of hin
  have b := Zm.mod_lt_of hin
  exact enc_mono (h _ _ a b) (fun x hx => by have := hS _ _ a b x hx; omega) (fun x hx => by have := hR _ _ a b x hx; omega)
theorem lat_le (S : Sq) (i j : Nat) : Zm.le (S i j) (Zm.lat S i j) := by
  unfold Zm.lat
  split
  · exact Zm.le_none _
  · exact Zm.le_refl _
theorem lat_lat (S : Sq) : Zm.lat (Zm.lat S) = Zm.lat S := by
  funext i j
  unfold Zm.lat
  split
  · rfl
  · rfl
/-- the same guard once more -/
theorem again {n : Nat} {S : Sq} {es : List Edge} (hn : NonNeg n (fw n (gall S es))) : fw n (gall (fw n (gall S es)) es) = fw n (gall S es) := by
  have c := Zm.fw_clo hn
  rw [Zm.gall_same fun e he => Zm.le_trans (Zm.fw_le n _ e.i e.j) (Zm.gall_edge he)]
  exact Zm.fw_of_clo c
theorem gall_rev (S : Sq) (gs : List Zm.Gi) : gall S (gs.reverse.map Zm.Gi.edge) = gall S (gs.map Zm.Gi.edge) := Zm.gall_perm fun e => by simp
end Zb
set_option Elab.async false
set_option linter.all false
set_option maxRecDepth 100000
set_option maxHeartbeats 4000000
namespace Zb
open PySem PySem.Spec PyProof.Rows L2 L2.DX Zg Evl
open StX (pa_star tStar)
open RZ (pi_zipA iZipA ItzT)
open Zm (sumE Sq B zl enc dec fw neg Up both less at3 mids rows cols Edge gmin gall EdgeOk Zn NonNeg Clo)

/-! ### comprehensions that draw, or lay new tuples -/
/-- a new list of rows is in the making: what else stands, but the pot -/
def Mk (K : PySem.W.Frag) (p : Addr) (H : Hp) (Dl : Addr) (xss : List (List V)) (H' : Hp) : Prop := H Dl = none ∧ Eb p H H' ∧ Dl ≠ p ∧ ∃ as, H' Dl = some (.lst (as.map V.ref)) ∧ RwAt K H' as xss
theorem Mk.start {K : PySem.W.Frag} {p : Addr} {H : Hp} {Dl : Addr} (h : H Dl = none) (hp : Dl ≠ p) : Mk K p H Dl [] (upd H Dl (.lst [])) := ⟨h, Eb.of (Ex.new h), hp, [], upd_same, RwAt.nil⟩
theorem Mk.len {K : PySem.W.Frag} {p : Addr} {H H' : Hp} {Dl : Addr} {xss : List (List V)} {as : List Addr} (h : RwAt K H' as xss) : as.length = xss.length := h.1
/-- one row more: x stands at a in H2 -/
theorem Mk.step {K : PySem.W.Frag} {p a : Addr} {H H' H2 : Hp} {Dl : Addr} {xss : List (List V)} {xs : List V} {N : Nat} (m : Mk K p H Dl xss H') (hP : PotIn N H' p) (e : Eb p H' H2) (ha : SqT K H2 a xs) (hz : xss.length ≤ 1000) :
    ∃ acc, H2 Dl = some (.lst acc) ∧ acc.length < sizeLine ∧ Mk K p H Dl (xss ++ [xs]) (upd H2 Dl (.lst (acc ++ [.ref a]))) := by
  obtain ⟨m1, m2, m3, as, m4, m5⟩ := m
  have h2 := e Dl _ m3 m4
  have m6 := pot_rw hP e m5
  have e3 : Eb Dl H2 (upd H2 Dl (.lst (as.map V.ref ++ [.ref a]))) := (Eb.refl Dl H2).upd
  refine ⟨_, h2, sz_lt (by rw [List.length_map, m5.1]; omega), m1, eb_mutn (m2.trans e) m1, m3, as ++ [a], ?_, RwAt.snoc ⟨m6.1, fun i b ys q1 q2 => eb_tt e3 h2 (fun _ z => by cases z) (fun _ _ z => by cases z) (m6.2 i b ys q1 q2)⟩ (eb_tt e3 h2 (fun _ z => by cases z) (fun _ _ z => by cases z) ha)⟩
  rw [upd_same, List.map_append]
  rfl
theorem pot_upd {N : Nat} {H : Hp} {p l : Addr} {o : HO} (h : PotIn N H p) (hl : l ≠ p) : PotIn N (upd H l o) p := by
  obtain ⟨a, b, c, h1, h2⟩ := h
  exact ⟨a, b, c, by rw [upd_ne (Ne.symm hl)]; exact h1, h2⟩
theorem pot_ne {N : Nat} {H : Hp} {p l : Addr} (h : PotIn N H p) (hl : H l = none) : l ≠ p := fun z => by
  obtain ⟨xs, hp⟩ := h.at
  rw [z, hp] at hl
  cases hl
section
variable {K : PySem.W.Frag} {σ : L2.St} {H H' : Hp} {ta tb tc td te tv tx : TE} {t u : TT} {x y z v : V} {r : R2} {D : Ends} {tu tw tz : TS}
/-- tuple([a value for .. in range(c)]), put to a name -/
theorem q_values {p : Addr} {N c i j : Nat} {E : XK} {ta : TE} {tn : TA} {vs : List Nat} (hn : EvA tn σ H [.int (c : Int)]) (hc : c ≤ 3) (hN : N ≤ 999900) (hP : PotIn N H p) (ha : ∀ (i : Nat) H, Ev ta ((wipe σ vs).set j (some (.int (i : Int)))) H (.ref p)) (hw : ∀ x, wipe ((wipe σ vs).set j (some x)) vs = wipe σ vs)
    (k : ∀ (a : Addr) (qs : List (Int × Int)) (H1 : Hp), H a = none → Eb p H H1 → PotIn (N + 2 * c) H1 p → RwT K H1 a (qs.map fvs) → qs.length = c → (∀ q ∈ qs, SmFr q) → tz D (σ.set i (some (.ref a))) H1) :
    tSeq (tAsg (tCB (rTupS K) (tCons (tLc (iRng1 tn) (gName j) tYes (tCall (spValue K) [] E (tCons ta tNil)) vs) tNil)) (gName i)) tz D σ H :=
  hn H (Ex.refl H) _ fun H1 e1 => ⟨(c : Int), rfl, by omega, by omega, fun Dl hD =>
    lc_range (lo := 0) (n := ((c : Int)).toNat) (fun i H' => ∃ qs : List (Int × Int), qs.length = i ∧ (∀ q ∈ qs, SmFr q) ∧ PotIn (N + 2 * i) H' p ∧ Mk K p H1 Dl (qs.map fvs) H') ⟨[], rfl, fun q hq => (List.not_mem_nil hq).elim, pot_upd (hP.ex e1) (pot_ne (hP.ex e1) hD), Mk.start hD (pot_ne (hP.ex e1) hD)⟩
      (fun i H' hi hq => by
        obtain ⟨qs, hl, hs, hP2, hm⟩ := hq
        rw [Int.toNat_natCast] at hi
        have e0 : (0 : Int) + (i : Int) = (i : Int) := Int.zero_add _
        show wipe ((wipe σ vs).set j (some (.int ((0 : Int) + (i : Int))))) vs = wipe σ vs ∧ tYes ((wipe σ vs).set j (some (.int ((0 : Int) + (i : Int))))) H' fun b H3 => if b = true then (tCall (spValue K) [] E (tCons ta tNil)) ((wipe σ vs).set j (some (.int ((0 : Int) + (i : Int))))) H3 fun y H4 => ∃ acc, H4 Dl = some (.lst acc) ∧ acc.length < sizeLine ∧ _ else _
        rw [e0]
        refine ⟨hw _, ?_⟩
        show (tCall (spValue K) [] E (tCons ta tNil)) ((wipe σ vs).set j (some (.int (i : Int)))) H' _
        refine ha i H' H' (Ex.refl _) _ fun H2 e2 => ⟨p, N + 2 * i, rfl, hP2.ex e2, by omega, fun q a H3 hsq _ e3 hP3 h3 => ?_⟩
        obtain ⟨acc, f1, f2, f3⟩ := hm.step (a := a) (xs := fvs q) hP2 ((Eb.of e2).trans e3) (st_of h3) (by rw [List.length_map]; omega)
        refine ⟨acc, f1, f2, qs ++ [q], by rw [List.length_append, hl]; rfl, fun z hz => ?_, pot_upd (hP3.mono (by omega)) hm.2.2.1, by rw [List.map_append]; exact f3⟩
        rcases List.mem_append.mp hz with w | w
        · exact hs z w
        · rw [List.mem_singleton.mp w]
          exact hsq)
      (fun H2 hq => by
        obtain ⟨qs, hl, hs, hP2, hm⟩ := hq
        rw [Int.toNat_natCast] at hl hP2
        obtain ⟨m1, m2, m3, as, m4, m5⟩ := hm
        exact ⟨Dl, _, rfl, .inl ⟨sq_of m4, fun a ha => k a qs _ (fresh_back e1 (m2.free (pot_ne hP2 ha) ha)) (((Eb.of e1).trans m2).trans (Eb.of (Ex.new ha))) (hP2.ex (Ex.new ha)) ⟨as, st_of upd_same, m5.ex (Ex.new ha)⟩ hl hs⟩⟩)⟩
/-- tuple([a number drawn for .. in range(a number drawn)]), put to a name -/
theorem q_places {p : Addr} {N c i j u : Nat} {E E2 : XK} {ta tb ta2 tb2 : TE} {vs : List Nat} (hP : PotIn N H p) (hN : N ≤ 999900) (hu1 : 1 ≤ u) (hu : u ≤ 10) (hc1 : 1 ≤ c) (hc : c ≤ 3) (ha : ∀ H, Ev ta σ H (.ref p)) (hb : ∀ H, Ev tb σ H (.int (u : Int)))
    (ha2 : ∀ (i : Nat) H, Ev ta2 ((wipe σ vs).set j (some (.int (i : Int)))) H (.ref p)) (hb2 : ∀ (i : Nat) H, Ev tb2 ((wipe σ vs).set j (some (.int (i : Int)))) H (.int (c : Int))) (hw : ∀ x, wipe ((wipe σ vs).set j (some x)) vs = wipe σ vs)
    (k : ∀ (a : Addr) (ps : List Nat) (H1 : Hp), H a = none → Eb p H H1 → PotIn (N + 11) H1 p → H1 a = some (.tup (ps.map fun i : Nat => V.int ((i : Nat) : Int))) → ps.length ≤ 10 → (∀ q ∈ ps, q < c) → tz D (σ.set i (some (.ref a))) H1) :
    tSeq (tAsg (tCB (rTupS K) (tCons (tLc (iRng1 (tCons (tCall spTake [] E (tCons ta (tCons tb tNil))) tNil)) (gName j) tYes (tCall spTake [] E2 (tCons ta2 (tCons tb2 tNil))) vs) tNil)) (gName i)) tz D σ H :=
  ep_take ha hb (by omega) hu1 (by omega) H hP _ fun v H1 hv e1 hP1 => by
    obtain ⟨d, hd, rfl⟩ := hv
    refine ⟨(d : Int), rfl, by omega, by omega, fun Dl hD => ?_⟩
    refine lc_range (lo := 0) (n := ((d : Int)).toNat) (fun i H' => ∃ ps : List Nat, ps.length = i ∧ (∀ q ∈ ps, q < c) ∧ PotIn (N + 1 + i) H' p ∧ H1 Dl = none ∧ Eb p H1 H' ∧ Dl ≠ p ∧ H' Dl = some (.lst (ps.map fun i : Nat => V.int ((i : Nat) : Int)))) ⟨[], rfl, fun q hq => (List.not_mem_nil hq).elim, pot_upd hP1 (pot_ne hP1 hD), hD, Eb.of (Ex.new hD), pot_ne hP1 hD, upd_same⟩ (fun i H' hi hq => ?_) fun H2 hq => ?_
    · obtain ⟨ps, hl, hs, hP2, m1, m2, m3, m4⟩ := hq
      rw [Int.toNat_natCast] at hi
      have e0 : (0 : Int) + (i : Int) = (i : Int) := Int.zero_add _
      show wipe ((wipe σ vs).set j (some (.int ((0 : Int) + (i : Int))))) vs = wipe σ vs ∧ tYes ((wipe σ vs).set j (some (.int ((0 : Int) + (i : Int))))) H' fun b H3 => if b = true then (tCall spTake [] E2 (tCons ta2 (tCons tb2 tNil))) ((wipe σ vs).set j (some (.int ((0 : Int) + (i : Int))))) H3 fun y H4 => ∃ acc, H4 Dl = some (.lst acc) ∧ acc.length < sizeLine ∧ _ else _
      rw [e0]
      refine ⟨hw _, ?_⟩
      show (tCall spTake [] E2 (tCons ta2 (tCons tb2 tNil))) ((wipe σ vs).set j (some (.int (i : Int)))) H' _
      refine ep_take (ha2 i) (hb2 i) (by omega) hc1 (by omega) H' hP2 _ fun v H3 hv e3 hP3 => ?_
      obtain ⟨b, hb, rfl⟩ := hv
      have f1 := e3 Dl _ m3 m4
      refine ⟨_, f1, sz_lt (by rw [List.length_map]; omega), ps ++ [b], by rw [List.length_append, hl]; rfl, fun z hz => ?_, pot_upd hP3 m3, m1, eb_mutn (m2.trans e3) m1, m3, ?_⟩
      · rcases List.mem_append.mp hz with w | w
        · exact hs z w
        · rw [List.mem_singleton.mp w]
          exact hb
      · rw [upd_same, List.map_append]
        rfl
    · obtain ⟨ps, hl, hs, hP2, m1, m2, m3, m4⟩ := hq
      rw [Int.toNat_natCast] at hl hP2
      exact ⟨Dl, _, rfl, .inl ⟨sq_of m4, fun a ha => k a ps _ (e1.free (pot_ne hP1 (m2.free (pot_ne hP2 ha) ha)) (m2.free (pot_ne hP2 ha) ha)) ((e1.trans m2).trans (Eb.of (Ex.new ha))) ((hP2.ex (Ex.new ha)).mono (by omega)) upd_same (by omega) hs⟩⟩
/-- a new tuple of rows -/
def EvRw (K : PySem.W.Frag) (te : TE) (σ : L2.St) (H : Hp) (xss : List (List V)) : Prop := ∀ H1, Ex H H1 → ∀ Q : VK, (∀ a H2, H1 a = none → Ex H1 H2 → RwT K H2 a xss → Q (.ref a) H2) → te σ H1 Q
def Mx (K : PySem.W.Frag) (H : Hp) (Dl : Addr) (xss : List (List V)) (H' : Hp) : Prop := H Dl = none ∧ Ex H H' ∧ ∃ as, H' Dl = some (.lst (as.map V.ref)) ∧ RwAt K H' as xss
theorem Mx.start (h : H x_ = none) : Mx K H x_ [] (upd H x_ (.lst [])) := ⟨h, Ex.new h, [], upd_same, RwAt.nil⟩
theorem Mx.step {a : Addr} {H H' H2 : Hp} {Dl : Addr} {xss : List (List V)} {xs : List V} (m : Mx K H Dl xss H') (e : Ex H' H2) (ha : SqT K H2 a xs) (hz : xss.length ≤ 1000) :
    ∃ acc, H2 Dl = some (.lst acc) ∧ acc.length < sizeLine ∧ Mx K H Dl (xss ++ [xs]) (upd H2 Dl (.lst (acc ++ [.ref a]))) := by
  obtain ⟨m1, m2, as, m4, m5⟩ := m
  have h2 := e Dl _ m4
  have m6 := m5.ex e
  have e3 : Eb Dl H2 (upd H2 Dl (.lst (as.map V.ref ++ [.ref a]))) := (Eb.refl Dl H2).upd
  refine ⟨_, h2, sz_lt (by rw [List.length_map, m5.1]; omega), m1, Ex.mut (m2.trans e) m1, as ++ [a], ?_, RwAt.snoc ⟨m6.1, fun i b ys q1 q2 => eb_tt e3 h2 (fun _ z => by cases z) (fun _ _ z => by cases z) (m6.2 i b ys q1 q2)⟩ (eb_tt e3 h2 (fun _ z => by cases z) (fun _ _ z => by cases z) ha)⟩
  rw [upd_same, List.map_append]
  rfl
/-- tuple([f(one, b) for one in values]) -/
theorem er_plus {b v : Addr} {qs : List (Int × Int)} {by_ : Int × Int} {j : Nat} {E : XK} {tl ta tb : TE} {vs : List Nat} (hl : Ev tl σ H (.ref v)) (hv : RwT K H v (qs.map fvs)) (hqs : ∀ q ∈ qs, SmFr q) (hql : qs.length ≤ 3) (hb0 : SqT K H b (fvs by_)) (hb1 : SmFr by_)
    (ha : ∀ (x : V) H, Ev ta ((wipe σ vs).set j (some x)) H x) (hb : ∀ (x : V) H, Ev tb ((wipe σ vs).set j (some x)) H (.ref b)) (hw : ∀ x, wipe ((wipe σ vs).set j (some x)) vs = wipe σ vs) :
    EvRw K (tCB (rTupS K) (tCons (tLc (iTup K tl) (gName j) tYes (tCall (spPlus K) [] E (tCons ta (tCons tb tNil))) vs) tNil)) σ H ((qs.map (plv by_)).map fvs) := fun H0 e0 Q k => by
  obtain ⟨as, hv1, hv2⟩ := hv
  refine hl H0 e0 _ fun H1 e1 => ⟨v, rfl, ⟨_, ex_t (e0.trans e1) hv1⟩, fun Dl hD => ?_⟩
  have e01 := e0.trans e1
  have hlen : as.length = qs.length := by rw [hv2.1, List.length_map]
  refine lc_tup (xs := as.map V.ref) (fun i H' => Mx K H1 Dl (((qs.take i).map (plv by_)).map fvs) H') (Mx.start hD) (fun i H' _ m => ex_t (e01.trans m.2.1) hv1) (fun i x H' hx m => ?_) fun H2 m => ?_
  · refine ⟨hw x, ?_⟩
    show (tCall (spPlus K) [] E (tCons ta (tCons tb tNil))) ((wipe σ vs).set j (some x)) H' _
    rw [List.getElem?_map] at hx
    obtain ⟨q, hq, rfl⟩ := Option.map_eq_some_iff.mp hx
    have hil : i < qs.length := by
      have := (List.getElem?_eq_some_iff.mp hq).1
      omega
    have hrow := (hv2.ex (e01.trans m.2.1)).2 i q (fvs qs[i]) hq (by rw [List.getElem?_map, List.getElem?_eq_getElem hil]; rfl)
    refine (ea_cons (ha (.ref q) H') (ea_cons (hb (.ref q) H') ea_nil)) H' (Ex.refl _) _ fun H3 e3 => ⟨q, b, qs[i], by_, rfl, ex_t e3 hrow, ex_t ((e01.trans m.2.1).trans e3) hb0, hqs _ (List.getElem_mem hil), hb1, fun a H4 _ e4 h4 => ?_⟩
    obtain ⟨acc, f1, f2, f3⟩ := m.step (a := a) (xs := fvs (plv by_ qs[i])) (e3.trans e4) (st_of h4) (by rw [List.length_map, List.length_map, List.length_take]; omega)
    refine ⟨acc, f1, f2, ?_⟩
    have : ((qs.take (i + 1)).map (plv by_)).map fvs = ((qs.take i).map (plv by_)).map fvs ++ [fvs (plv by_ qs[i])] := by
      rw [List.take_add_one, List.getElem?_eq_getElem hil, List.map_append, List.map_append]
      rfl
    rw [this]
    exact f3
  · rw [List.length_map, hlen, List.take_length] at m
    obtain ⟨m1, m2, bs, m4, m5⟩ := m
    exact ⟨Dl, _, rfl, .inl ⟨sq_of m4, fun a ha => k a _ (fresh_back (e1.trans m2) ha) ((e1.trans m2).trans (Ex.new ha)) ⟨bs, st_of upd_same, m5.ex (Ex.new ha)⟩⟩⟩
end
end Zb
set_option Elab.async false
set_option linter.all false
set_option maxRecDepth 100000
set_option maxHeartbeats 4000000
namespace Zb
open PySem PySem.Spec PyProof.Rows L2 L2.DX Zg Evl
open StX (pa_star tStar)
open RZ (pi_zipA iZipA ItzT)
open Zm (sumE Sq B zl enc dec fw neg Up both less at3 mids rows cols Edge gmin gall EdgeOk Zn NonNeg Clo)

/-! ### enumerate in a comprehension -/
theorem lc_enum {K : PySem.W.Frag} {a : Addr} {xs : List V} {g : TG} {tt : TT} {te : TE} {vs : List Nat} {σ : L2.St} {H1 : Hp} {D : Addr} {Qd : Hp → Prop} (Pv : Nat → Hp → Prop) (h0 : Pv 0 (upd H1 D (.lst []))) (hl : ∀ i H, i ≤ xs.length → Pv i H → SqT K H a xs)
    (hs : ∀ i x T H, xs[i]? = some x → Pv i H → H T = none → g (.ref T) (wipe σ vs) (upd H T (.tup [.int (i : Nat), x])) fun σ2 H2 => wipe σ2 vs = wipe σ vs ∧ tt σ2 H2 fun b H3 =>
      if b = true then te σ2 H3 fun y H4 => ∃ acc, H4 D = some (.lst acc) ∧ acc.length < sizeLine ∧ Pv (i + 1) (upd H4 D (.lst (acc ++ [y]))) else Pv (i + 1) H3) (hd : ∀ H, Pv xs.length H → Qd H) :
    ∃ W : Nat → Nat → Hp → Prop, (∃ m, W 0 m (upd H1 D (.lst []))) ∧ ∀ i m H, W i m H →
      ((IteT K a).stop i H ∧ Qd H) ∨ ((IteT K a).go i H ∧ ∃ Nx : Hp → Prop, (∀ H', Nx H' → ∃ m', m' < m ∧ W (i + 1) m' H') ∧ ∀ x H', (IteT K a).yld i H x H' → g x (wipe σ vs) H' fun σ2 H2 => wipe σ2 vs = wipe σ vs ∧ tt σ2 H2 fun b H3 =>
        if b = true then te σ2 H3 fun y H4 => ∃ acc, H4 D = some (.lst acc) ∧ acc.length < sizeLine ∧ Nx (upd H4 D (.lst (acc ++ [y]))) else Nx H3) := by
  refine ⟨fun i m H => m = xs.length - i ∧ i ≤ xs.length ∧ Pv i H, ⟨xs.length, by simp, Nat.zero_le _, h0⟩, ?_⟩
  rintro i m H ⟨rfl, hi, p⟩
  have q := hl i H hi p
  by_cases hlt : i < xs.length
  · refine .inr ⟨⟨xs, xs[i], q, by simp [hlt]⟩, Pv (i + 1), fun H' p' => ⟨xs.length - (i + 1), by omega, rfl, hlt, p'⟩, fun x H' y => ?_⟩
    obtain ⟨T, z, e1, hT, e2, y⟩ := y
    subst e1 e2
    exact hs i z T _ (y xs q) p hT
  · have e : i = xs.length := by omega
    subst e
    exact .inl ⟨⟨xs, q, Nat.le_refl _⟩, hd H p⟩
theorem in_places (ps : List Nat) (i : Nat) : inV (.int (i : Int)) (ps.map fun i : Nat => V.int ((i : Nat) : Int)) = decide (i ∈ ps) := by
  unfold inV
  rw [List.any_map]
  rw [Bool.eq_iff_iff, List.any_eq_true, decide_eq_true_eq]
  constructor
  · rintro ⟨x, hx, h⟩
    have h : (((x : Int)) == (i : Int)) = true := h
    have : x = i := by
      have := eq_of_beq h
      omega
    rw [← this]
    exact hx
  · intro h
    refine ⟨i, h, ?_⟩
    show (((i : Int)) == (i : Int)) = true
    simp
theorem flat_places (ps : List Nat) : (ps.map fun i : Nat => V.int ((i : Nat) : Int)).all flatV = true := by
  rw [List.all_map, List.all_eq_true]
  intro i _
  rfl
section
variable {K : PySem.W.Frag} {σ : L2.St} {H H' : Hp} {ta tb tc td te tv tx : TE} {t u : TT} {x y z v : V} {r : R2} {D : Ends} {tu tw tz : TS}
/-- tuple([(0, 1) if at in places else one for at, one in enumerate(values)]) -/
theorem er_back {v pl : Addr} {qs : List (Int × Int)} {ps : List Nat} {j l : Nat} {tl : TE} {vs : List Nat} (hl : Ev tl σ H (.ref v)) (hv : RwT K H v (qs.map fvs)) (hql : qs.length ≤ 3) (hp : SqT K H pl (ps.map fun i : Nat => V.int ((i : Nat) : Int)))
    (ha : ∀ (i x : V) H, Ev ta (((wipe σ vs).set j (some i)).set l (some x)) H i) (hb : ∀ (i x : V) H, Ev tb (((wipe σ vs).set j (some i)).set l (some x)) H (.ref pl)) (hc : ∀ (i x : V) H, Ev tc (((wipe σ vs).set j (some i)).set l (some x)) H x) (hw : ∀ i x, wipe (((wipe σ vs).set j (some i)).set l (some x)) vs = wipe σ vs) :
    EvRw K (tCB (rTupS K) (tCons (tLc (iEnumT K (tCons tl tNil)) (gTup K 2 (gCons (gName j) (gCons (gName l) gNil))) tYes (tIf (tTest (tOp (rIn K false) ta tb)) (tTup (tCons (tC (.int 0)) (tCons (tC (.int 1)) tNil))) tc) vs) tNil)) σ H ((bkv ps qs).map fvs) := fun H0 e0 Q k => by
  obtain ⟨as, hv1, hv2⟩ := hv
  refine hl H0 e0 _ fun H1 e1 => ⟨v, _, rfl, ex_t (e0.trans e1) hv1, fun Dl hD => ?_⟩
  have e01 := e0.trans e1
  have hlen : as.length = qs.length := by rw [hv2.1, List.length_map]
  have hbl : (bkv ps qs).length = qs.length := by
    unfold bkv
    rw [List.length_map, List.length_range]
  refine lc_enum (xs := as.map V.ref) (fun i H' => Mx K H1 Dl (((bkv ps qs).take i).map fvs) H') (Mx.start hD) (fun i H' _ m => ex_t (e01.trans m.2.1) hv1) (fun i x T H' hx m hT => ?_) fun H2 m => ?_
  · rw [List.getElem?_map] at hx
    obtain ⟨q, hq, rfl⟩ := Option.map_eq_some_iff.mp hx
    refine g_unp2 (st_of upd_same) ⟨hw _ _, ?_⟩
    have eT : Ex H' (upd H' T (.tup [.int (i : Nat), .ref q])) := Ex.new hT
    have hil : i < qs.length := by
      have := (List.getElem?_eq_some_iff.mp hq).1
      omega
    have hbi : (bkv ps qs)[i]? = some (if i ∈ ps then (0, 1) else qs[i]) := by
      unfold bkv
      rw [List.getElem?_map, List.getElem?_range hil]
      show some (if i ∈ ps then (0, 1) else qs.getD i (0, 1)) = _
      rw [List.getD_eq_getElem?_getD, List.getElem?_eq_getElem hil]
      rfl
    have hnext : ((bkv ps qs).take (i + 1)).map fvs = ((bkv ps qs).take i).map fvs ++ [fvs (if i ∈ ps then (0, 1) else qs[i])] := by
      rw [List.take_add_one, hbi, List.map_append]
      rfl
    have hrow := (hv2.ex ((e01.trans m.2.1).trans eT)).2 i q (fvs qs[i]) hq (by rw [List.getElem?_map, List.getElem?_eq_getElem hil]; rfl)
    have hpl := ex_t ((e01.trans m.2.1).trans eT) hp
    show (tIf (tTest (tOp (rIn K false) ta tb)) (tTup (tCons (tC (.int 0)) (tCons (tC (.int 1)) tNil))) tc) (((wipe σ vs).set j (some (.int (i : Nat)))).set l (some (.ref q))) (upd H' T (.tup [.int (i : Nat), .ref q])) _
    have hsz : (((bkv ps qs).take i).map fvs).length ≤ 1000 := by
      rw [List.length_map, List.length_take]
      omega
    refine (et_is (et_test (ev_op (ha _ _ _) (hb _ _ _) (rv_isT hpl rfl (flat_places ps)))) (in_places ps i)) _ (Ex.refl _) _ fun H3 e3 => ?_
    by_cases hin : i ∈ ps
    · rw [decide_eq_true hin, if_pos rfl]
      refine eu_tup (vs := [.int 0, .int 1]) (ea_cons ev_c (ea_cons ev_c ea_nil)) (by show 2 ≤ 100000; decide) H3 (Ex.refl _) _ fun a H4 _ e4 h4 => ?_
      obtain ⟨acc, f1, f2, f3⟩ := m.step (a := a) (xs := fvs (0, 1)) ((eT.trans e3).trans e4) (st_of h4) hsz
      refine ⟨acc, f1, f2, ?_⟩
      rw [hnext, if_pos hin]
      exact f3
    · rw [decide_eq_false hin, if_neg Bool.false_ne_true]
      refine hc _ _ H3 H3 (Ex.refl _) _ fun H4 e4 => ?_
      obtain ⟨acc, f1, f2, f3⟩ := m.step (a := q) (xs := fvs qs[i]) ((eT.trans e3).trans e4) (ex_t (e3.trans e4) hrow) hsz
      refine ⟨acc, f1, f2, ?_⟩
      rw [hnext, if_neg hin]
      exact f3
  · rw [List.length_map, hlen, ← hbl, List.take_length] at m
    obtain ⟨m1, m2, bs, m4, m5⟩ := m
    exact ⟨Dl, _, rfl, .inl ⟨sq_of m4, fun a ha => k a _ (fresh_back (e1.trans m2) ha) ((e1.trans m2).trans (Ex.new ha)) ⟨bs, st_of upd_same, m5.ex (Ex.new ha)⟩⟩⟩
/-! ### a tuple with one number changed -/
def EvS (K : PySem.W.Frag) (te : TE) (σ : L2.St) (H : Hp) (xs : List V) : Prop := ∀ H1, Ex H H1 → ∀ Q : VK, (∀ a H2, Ex H1 H2 → SqT K H2 a xs → Q (.ref a) H2) → te σ H1 Q
theorem es_sl {tl th : TO} {a : Addr} {xs : List V} {lo hi : Option Int} (h : Ev te σ H (.ref a)) (h1 : EvO tl σ H lo) (h2 : EvO th σ H hi) (hs : SqT K H a xs) : EvS K (tSl (rSlA K) te tl th) σ H (cutV xs lo hi) := fun H1 e Q q =>
  h H1 e _ fun H2 e2 => h1 H2 (e.trans e2) _ fun H3 e3 => h2 H3 ((e.trans e2).trans e3) _ fun H4 e4 => ⟨a, xs, rfl, ex_t (((e.trans e2).trans e3).trans e4) hs, fun hw => q a H4 ((e2.trans e3).trans e4) (by
    unfold cutV
    rw [hw.1, hw.2, List.drop_zero, Nat.sub_zero, List.take_length]
    exact ex_t (((e.trans e2).trans e3).trans e4) hs), fun _ p hp => q p _ (((e2.trans e3).trans e4).trans (Ex.new hp)) (st_of upd_same)⟩
theorem cut_lo (xs : List V) {m : Nat} (hm : m ≤ xs.length) : cutV xs none (some (m : Int)) = xs.take m := by
  unfold cutV
  rw [HT.sIx_none, HT.sIx_nat, List.drop_zero, Nat.sub_zero, Nat.min_eq_left hm]
theorem cut_hi (xs : List V) {m : Nat} (hm : m ≤ xs.length) : cutV xs (some (m : Int)) none = xs.drop m := by
  unfold cutV
  rw [HT.sIx_none, HT.sIx_nat, Nat.min_eq_left hm, List.take_of_length_le (by rw [List.length_drop]; exact Nat.le_refl _)]
/-- t + u, of any two tuples -/
theorem cat_any {a b : Addr} {xs ys : List V} {Q : VK} (ha : SqT K H a xs) (hb : SqT K H b ys) (hz : xs.length + ys.length ≤ 1000) (q : ∀ c H2, Ex H H2 → SqT K H2 c (xs ++ ys) → Q (.ref c) H2) : rCatA K (.ref a) (.ref b) H Q :=
  ⟨a, b, xs, ys, rfl, rfl, ha, hb, sz_of (by omega), fun h => q b H (Ex.refl _) (by rw [h]; exact hb), fun _ h => q a H (Ex.refl _) (by rw [h, List.append_nil]; exact ha), fun _ _ p hp => q p _ (Ex.new hp) (st_of upd_same)⟩
theorem q_bent {i : Nat} {z p : Addr} {N M m : Nat} {xs : List Int} {e : Int} {tz1 tz2 tz3 tm1 tm2 tm3 tof : TE} (hz1 : ∀ H, Ev tz1 σ H (.ref z)) (hz2 : ∀ H, Ev tz2 σ H (.ref z)) (hz3 : ∀ H, Ev tz3 σ H (.ref z)) (hm1 : ∀ H, Ev tm1 σ H (.int (m : Int))) (hm2 : ∀ H, Ev tm2 σ H (.int (m : Int))) (hm3 : ∀ H, Ev tm3 σ H (.int ((m + 1 : Nat) : Int)))
    (hof : EvP p N M tof σ (fun v => v ∈ [V.int 1, V.int (-1)])) (hP : PotIn N H p) (hz : SqT K H z (xs.map V.int)) (hm : xs[m]? = some e) (hl : xs.length ≤ 100)
    (k : ∀ b d H1, (d = 1 ∨ d = -1) → Eb p H H1 → PotIn M H1 p → SqT K H1 b ((xs.set m (e + d)).map V.int) → tz D (σ.set i (some (.ref b))) H1) :
    tSeq (tAsg (tOp (rCatA K) (tOp (rCatA K) (tSl (rSlA K) tz1 tNoPart (tPart tm1)) (tTup (tCons (tOp (rI0 fun i j => .int (i + j)) (tOp (rIxT K) tz2 tm2) tof) tNil))) (tSl (rSlA K) tz3 (tPart tm3) tNoPart)) (gName i)) tz D σ H := by
  have hml : m < xs.length := (List.getElem?_eq_some_iff.mp hm).1
  have hxm : (xs.map V.int)[m]? = some (.int e) := by
    rw [List.getElem?_map, hm]
    rfl
  have s1 : EvS K (tSl (rSlA K) tz1 tNoPart (tPart tm1)) σ H (cutV (xs.map V.int) none (some (m : Int))) := es_sl (hz1 H) eo_none (eo_some (hm1 H)) hz
  refine s1 H (Ex.refl _) _ fun a1 H1 e1 h1 => ?_
  refine (ev_op (hz2 H1) (hm2 H1) (rv_ixT (ex_t e1 hz) (at_of (j := m) rfl hxm)) : Ev (tOp (rIxT K) tz2 tm2) σ H1 (.int e)) H1 (Ex.refl _) _ fun H2 e2 => ?_
  refine hof H2 (hP.ex (e1.trans e2)) _ fun v H3 hv e3 hP3 => ?_
  have hd : ∃ d : Int, (d = 1 ∨ d = -1) ∧ v = .int d := by
    simp only [List.mem_cons, List.not_mem_nil, or_false] at hv
    rcases hv with rfl | rfl
    · exact ⟨1, .inl rfl, rfl⟩
    · exact ⟨-1, .inr rfl, rfl⟩
  obtain ⟨d, hd, rfl⟩ := hd
  have hP1 := hP.ex (e1.trans e2)
  have h1' := pot_t hP1 e3 (ex_t e2 h1)
  have hz' := pot_t hP1 e3 (ex_t (e1.trans e2) hz)
  refine ⟨e, d, rfl, rfl, by show 1 ≤ sizeLine; exact sz_of (by decide), fun T hT => ?_⟩
  have eT := Ex.new (o := .tup [.int (e + d)]) hT
  rw [cut_lo _ (by rw [List.length_map]; omega)] at h1'
  refine cat_any (K := K) (ex_t eT h1') (st_of upd_same) (by rw [List.length_take, List.length_map]; simp; omega) fun c H4 e4 h4 => ?_
  have hz4 := ex_t (eT.trans e4) hz'
  have s2 : EvS K (tSl (rSlA K) tz3 (tPart tm3) tNoPart) σ H4 (cutV (xs.map V.int) (some ((m + 1 : Nat) : Int)) none) := es_sl (hz3 H4) (eo_some (hm3 H4)) eo_none hz4
  refine s2 H4 (Ex.refl _) _ fun a2 H5 e5 h5 => ?_
  rw [cut_hi _ (by rw [List.length_map]; omega)] at h5
  refine cat_any (K := K) (ex_t e5 h4) h5 (by simp; omega) fun b H6 e6 h6 => ?_
  refine k b d H6 hd (((Eb.of (e1.trans e2)).trans e3).trans (Eb.of (((eT.trans e4).trans e5).trans e6))) (hP3.ex (((eT.trans e4).trans e5).trans e6)) ?_
  have : (xs.set m (e + d)).map V.int = (xs.map V.int).take m ++ [.int (e + d)] ++ (xs.map V.int).drop (m + 1) := by
    rw [List.set_eq_take_append_cons_drop, if_pos hml, List.map_append, List.map_cons, List.map_take, List.map_drop, List.append_assoc]
    rfl
  rw [this]
  exact h6
end
end Zb
set_option Elab.async false
set_option linter.all false
set_option maxRecDepth 100000
set_option maxHeartbeats 4000000
namespace Zb
open PySem PySem.Spec PyProof.Rows L2 L2.DX Zg Evl
open StX (pa_star tStar)
open RZ (pi_zipA iZipA ItzT)
open Zm (sumE Sq B zl enc dec fw neg Up both less at3 mids rows cols Edge gmin gall EdgeOk Zn NonNeg Clo)

/-! ### the first square -/
def rowK (a n : Nat) (w : Nat → V) : List (List L2.Key × V) := (List.range n).map fun j : Nat => ([.inl (a : Int), .inl ((j : Nat) : Int)], w j)
theorem row_join {n a : Nat} {u w : Nat → V} : kvt n (a * n) u ++ rowK a n w = kvt n (a * n + n) (fun p => if p < a * n then u p else w (p - a * n)) := by
  unfold kvt rowK
  rw [List.range_add, List.map_append, List.map_map]
  congr 1
  · refine List.map_congr_left fun p hp => ?_
    show (kk n p, u p) = (kk n p, if p < a * n then u p else w (p - a * n))
    rw [if_pos (List.mem_range.mp hp)]
  · refine List.map_congr_left fun j hj => ?_
    have hj := List.mem_range.mp hj
    show _ = (kk n (a * n + j), if a * n + j < a * n then u (a * n + j) else w (a * n + j - a * n))
    rw [kk_at hj, if_neg (by omega), show a * n + j - a * n = j by omega]
theorem row_hash {P : Program} {w : World} {n : Nat} (hn : n ≤ 4) (u : Nat → V) : ((rowK 0 n u).map fun q => (tupleKind (mixKind P w)).hash q.1).Nodup := by
  unfold rowK
  rw [List.map_map]
  have e : ∀ j : Nat, (tupleKind (mixKind P w)).hash [Sum.inl ((0 : Nat) : Int), Sum.inl (j : Int)] = reduceHash (Builtin.Tuple.tupleHashOf [hashInt ((0 : Nat) : Int), hashInt (j : Int)]) := fun j => rfl
  have e2 : ((fun q : List L2.Key × V => (tupleKind (mixKind P w)).hash q.1) ∘ fun j : Nat => ([Sum.inl ((0 : Nat) : Int), Sum.inl (j : Int)], u j)) = fun j : Nat => reduceHash (Builtin.Tuple.tupleHashOf [hashInt ((0 : Nat) : Int), hashInt (j : Int)]) := rfl
  rw [e2]
  have h4 : ((List.range 4).map fun j : Nat => reduceHash (Builtin.Tuple.tupleHashOf [hashInt ((0 : Nat) : Int), hashInt (j : Int)])).Nodup := by decide +kernel
  refine List.Nodup.sublist ?_ h4
  refine List.Sublist.map _ ?_
  have : List.range n = (List.range 4).take n := by rw [List.take_range, Nat.min_eq_left hn]
  rw [this]
  exact List.take_sublist _ _
section
variable {P : Program} {w : World} {K : PySem.W.Frag} {σ : L2.St} {H H' : Hp} {ta tb tc td te tv tx : TE} {t u : TT} {x y z v : V} {r : R2} {D : Ends} {tu tw tz : TS}
theorem yes_go {Q : VK} {R : Hp → Prop} (h : te σ H Q) : tYes σ H (fun b H3 => if b = true then te σ H3 Q else R H3) := h
theorem pair_new {xs ys : List V} (hk : EvU ta σ H xs) (hv : ∀ H, EvU tb σ H ys) : ∀ Q : VK, (∀ T1 T2 T3 H4, Ex H H4 → H4 T1 = some (.tup xs) → H4 T2 = some (.tup ys) → H4 T3 = some (.tup [.ref T1, .ref T2]) → Q (.ref T3) H4) → (tTup (tCons ta (tCons tb tNil))) σ H Q := fun Q q =>
  hk H (Ex.refl _) _ fun T1 H3 _ e3 h3 => hv H3 H3 (Ex.refl _) _ fun T2 H5 _ e5 h5 => ⟨by show 2 ≤ sizeLine; exact sz_of (by decide), fun T3 hT3 => q T1 T2 T3 _ ((e3.trans e5).trans (Ex.new hT3)) ((e5.trans (Ex.new hT3)) T1 _ h3) ((Ex.new hT3) T2 _ h5) upd_same⟩
/-- square.update(dict([((at, to), (0, True)) for to in range(many)])) -/
theorem s_updRow {d : Addr} {n a j : Nat} {tn : TA} {vs : List Nat} (hd : ∀ H, Ev td σ H (.ref d)) (hn : ∀ H, EvA tn σ H [.int (n : Int)]) (hn1 : 1 ≤ n) (hn4 : n ≤ 4) (ha4 : a ≤ 4) (hs : SqM K H d n (a * n) fun _ _ => Zm.nil)
    (ha : ∀ (i : Nat) H, Ev ta ((wipe σ vs).set j (some (.int (i : Int)))) H (.int (a : Int))) (hb : ∀ (i : Nat) H, Ev tb ((wipe σ vs).set j (some (.int (i : Int)))) H (.int (i : Int))) (hw : ∀ x, wipe ((wipe σ vs).set j (some x)) vs = wipe σ vs)
    (k : ∀ H1, Eb d H H1 → SqM K H1 d n ((a + 1) * n) (fun _ _ => Zm.nil) → D.nx σ H1) :
    tDrop (tBM K "dict" (rUpdT P w) td (tCons (tCB (rDictPT K) (tCons (tLc (iRng1 tn) (gName j) tYes (tTup (tCons (tTup (tCons ta (tCons tb tNil))) (tCons (tTup (tCons (tC (.int 0)) (tCons (tC (.bl true)) tNil))) tNil))) vs) tNil)) tNil)) D σ H :=
  hd H H (Ex.refl _) _ fun H1 e1 => by
    obtain ⟨u, hu1, hu2⟩ := hs.ex e1
    refine ⟨.inr (.inr (.inl ⟨rfl, .inr ⟨_, hu1⟩⟩)), hn H1 H1 (Ex.refl _) _ fun H2 e2 => ⟨(n : Int), rfl, by omega, by omega, fun Dl hD => ?_⟩⟩
    refine lc_range (lo := 0) (n := ((n : Int)).toNat) (fun i H' => H2 Dl = none ∧ Ex H2 H' ∧ ∃ (ts : List Addr) (w : Nat → V), H' Dl = some (.lst (ts.map V.ref)) ∧ ts.length = i ∧ (∀ (j : Nat) (t : Addr), ts[j]? = some t → PrAt H' t ([.inl (a : Int), .inl (j : Int)], w j)) ∧ ∀ j, j < i → VB K H' (w j) Zm.nil)
      ⟨hD, Ex.new hD, [], fun _ => .non, upd_same, rfl, fun j t h => by simp at h, fun j h => by omega⟩ (fun i H' hi hq => ?_) fun H3 hq => ?_
    · obtain ⟨m1, m2, ts, w2, m3, m4, m5, m6⟩ := hq
      rw [Int.toNat_natCast] at hi
      have e0 : (0 : Int) + (i : Int) = (i : Int) := Int.zero_add _
      show wipe ((wipe σ vs).set j (some (.int ((0 : Int) + (i : Int))))) vs = wipe σ vs ∧ tYes ((wipe σ vs).set j (some (.int ((0 : Int) + (i : Int))))) H' fun b H3 => if b = true then (tTup (tCons (tTup (tCons ta (tCons tb tNil))) (tCons (tTup (tCons (tC (.int 0)) (tCons (tC (.bl true)) tNil))) tNil))) ((wipe σ vs).set j (some (.int ((0 : Int) + (i : Int))))) H3 fun y H4 => ∃ acc, H4 Dl = some (.lst acc) ∧ acc.length < sizeLine ∧ _ else _
      rw [e0]
      refine ⟨hw _, ?_⟩
      have hk : EvU (tTup (tCons ta (tCons tb tNil))) ((wipe σ vs).set j (some (.int (i : Int)))) H' [.int (a : Int), .int (i : Int)] := eu_tup (ea_cons (ha i H') (ea_cons (hb i H') ea_nil)) (by show 2 ≤ 100000; decide)
      have hv : ∀ H', EvU (tTup (tCons (tC (.int 0)) (tCons (tC (.bl true)) tNil))) ((wipe σ vs).set j (some (.int (i : Int)))) H' [.int 0, .bl true] := fun H' => eu_tup (ea_cons ev_c (ea_cons ev_c ea_nil)) (by show 2 ≤ 100000; decide)
      refine yes_go ?_
      refine pair_new hk hv _ fun T1 T2 T3 H4 e4 h1 h2 h3 => ?_
      have hl4 := e4 Dl _ m3
      have eD : Eb Dl H4 (upd H4 Dl (.lst (ts.map V.ref ++ [.ref T3]))) := (Eb.refl Dl H4).upd
      have keepT : ∀ q xs, H4 q = some (.tup xs) → (upd H4 Dl (.lst (ts.map V.ref ++ [.ref T3]))) q = some (.tup xs) := fun q xs hq => eD q _ (fun z => by rw [z, hl4] at hq; cases hq) hq
      refine ⟨_, hl4, sz_lt (by rw [List.length_map, m4]; omega), m1, Ex.mut (m2.trans e4) m1, ts ++ [T3], fun j => if j = i then .ref T2 else w2 j, ?_, by rw [List.length_append, m4]; rfl, fun j t hj => ?_, fun j hj => ?_⟩
      · rw [upd_same, List.map_append]
        rfl
      · show PrAt _ t ([.inl (a : Int), .inl ((j : Nat) : Int)], if j = i then .ref T2 else w2 j)
        by_cases z : j = i
        · subst z
          rw [List.getElem?_append_right (by omega), m4, Nat.sub_self] at hj
          injection hj with hj
          subst hj
          rw [if_pos rfl]
          exact ⟨T1, keepT _ _ h3, keepT _ _ h1⟩
        · have hjl : j < ts.length := by
            have := (List.getElem?_eq_some_iff.mp hj).1
            rw [List.length_append, m4] at this
            have : j < i + 1 := this
            omega
          rw [List.getElem?_append_left hjl] at hj
          rw [if_neg z]
          obtain ⟨b, b1, b2⟩ := m5 j t hj
          exact ⟨b, keepT _ _ (e4 _ _ b1), keepT _ _ (e4 _ _ b2)⟩
      · show VB K _ (if j = i then .ref T2 else w2 j) _
        by_cases z : j = i
        · rw [if_pos z]
          exact ⟨T2, rfl, st_of (keepT _ _ h2)⟩
        · rw [if_neg z]
          exact ((m6 j (by omega)).ex e4).eb eD hl4 (fun _ z => by cases z) (fun _ _ z => by cases z)
    · obtain ⟨m1, m2, ts, w2, m3, m4, m5, m6⟩ := hq
      rw [Int.toNat_natCast] at m4 m6
      have e03 := e2.trans m2
      refine ⟨Dl, ts, rowK a n w2, rfl, sq_of m3, ?_, ?_, fun q hq => ?_⟩
      · refine Zg.paired_of (by unfold rowK; rw [List.length_map, List.length_range, m4]) fun i t y ht hy => ?_
        unfold rowK at hy
        have hin : i < n := by
          have := (List.getElem?_eq_some_iff.mp ht).1
          omega
        rw [List.getElem?_map, List.getElem?_range hin] at hy
        injection hy with hy
        rw [← hy]
        exact m5 i t ht
      · unfold rowK
        rw [List.map_map]
        refine List.Pairwise.map _ (fun a b h e => h ?_) (List.nodup_range (n := n))
        injection e with _ e
        injection e with e _
        injection e with e
        exact_mod_cast e
      · have hq0 : H1 q = none := fresh_back e03 hq
        have hqd : d ≠ q := fun z => by
          rw [← z, hu1] at hq0
          cases hq0
        have hd3 : (upd H3 q (.dT (rowK a n w2))) d = some (.dT (kvt n (a * n) u)) := by
          rw [upd_ne hqd]
          exact e03 d _ hu1
        refine ⟨d, q, kvt n (a * n) u, rowK a n w2, rfl, rfl, hqd, hd3, upd_same, ?_, ?_, ?_, ?_⟩
        · rw [row_join]
          exact kvt_nodup _ _ _
        · rw [kvt_len]
          unfold rowK
          rw [List.length_map, List.length_range]
          have : a * n ≤ 4 * 4 := Nat.mul_le_mul ha4 hn4
          omega
        · by_cases ha0 : a = 0
          · right
            subst ha0
            exact row_hash hn4 w2
          · left
            intro z
            have := congrArg List.length z
            rw [kvt_len] at this
            have h1 : a * n = 0 := this
            have : 0 < a * n := Nat.mul_pos (by omega) (by omega)
            omega
        · rw [row_join]
          have eN : Ex H3 (upd H3 q (.dT (rowK a n w2))) := Ex.new hq
          have eD : Eb d (upd H3 q (.dT (rowK a n w2))) (upd (upd H3 q (.dT (rowK a n w2))) d (.dT (kvt n (a * n + n) (fun p => if p < a * n then u p else w2 (p - a * n))))) := (Eb.refl d _).upd
          refine k _ ((Eb.of ((e1.trans e03).trans eN)).trans eD) ⟨fun p => if p < a * n then u p else w2 (p - a * n), by rw [upd_same, Nat.succ_mul], fun p hp => ?_⟩
          show VB K _ (if p < a * n then u p else w2 (p - a * n)) _
          by_cases z : p < a * n
          · rw [if_pos z]
            exact ((hu2 p z).ex (e03.trans eN)).eb eD hd3 (fun _ z => by cases z) (fun _ _ z => by cases z)
          · rw [if_neg z]
            rw [Nat.succ_mul] at hp
            exact ((m6 (p - a * n) (by omega)).ex eN).eb eD hd3 (fun _ z => by cases z) (fun _ _ z => by cases z)
/-! ### calls, comparisons -/
def SpU (sp : Sp) (vs : List V) (H : Hp) (xs : List V) : Prop := ∀ H1, Ex H H1 → ∀ Q : VK, RetU xs H1 Q → ∀ E : XK, sp vs H1 Q E
theorem eu_call {sp : Sp} {dvs vs xs : List V} {E : XK} {ta : TA} (h : EvA ta σ H vs) (hs : SpU sp (vs ++ dvs) H xs) : EvU (tCall sp dvs E ta) σ H xs := fun H1 e Q q =>
  h H1 e _ fun H2 e2 => hs H2 (e.trans e2) Q (fun p H3 hp e3 h3 => q p H3 (fresh_back e2 hp) (e2.trans e3) h3) _
def SpD (K : PySem.W.Frag) (sp : Sp) (vs : List V) (H : Hp) (n : Nat) (S : Sq) : Prop := ∀ H1, Ex H H1 → ∀ Q : VK, RetD K n S H1 Q → ∀ E : XK, sp vs H1 Q E
def EvD (K : PySem.W.Frag) (te : TE) (σ : L2.St) (H : Hp) (n : Nat) (S : Sq) : Prop := ∀ H1, Ex H H1 → ∀ Q : VK, RetD K n S H1 Q → te σ H1 Q
theorem RetD.go {n : Nat} {S : Sq} {Q : VK} (k : RetD K n S H Q) (e : Ex H H') : RetD K n S H' Q := fun p H2 hp e2 h2 => k p H2 (fresh_back e hp) (e.trans e2) h2
theorem ed_call {sp : Sp} {dvs vs : List V} {E : XK} {ta : TA} {n : Nat} {S : Sq} (h : EvA ta σ H vs) (hs : SpD K sp (vs ++ dvs) H n S) : EvD K (tCall sp dvs E ta) σ H n S := fun H1 e Q q =>
  h H1 e _ fun H2 e2 => hs H2 (e.trans e2) Q (q.go e2) _
def EvDX (K : PySem.W.Frag) (te : TE) (σ : L2.St) (H : Hp) (b : Bool) (n : Nat) (S : Sq) : Prop := ∀ H1, Ex H H1 → ∀ Q : VK, RetDX K b n S H1 Q → te σ H1 Q
def SpDX (K : PySem.W.Frag) (sp : Sp) (vs : List V) (H : Hp) (b : Bool) (n : Nat) (S : Sq) : Prop := ∀ H1, Ex H H1 → ∀ Q : VK, RetDX K b n S H1 Q → ∀ E : XK, sp vs H1 Q E
theorem edx_call {sp : Sp} {dvs vs : List V} {E : XK} {ta : TA} {b : Bool} {n : Nat} {S : Sq} (h : EvA ta σ H vs) (hs : SpDX K sp (vs ++ dvs) H b n S) : EvDX K (tCall sp dvs E ta) σ H b n S := fun H1 e Q q =>
  h H1 e _ fun H2 e2 => hs H2 (e.trans e2) Q (q.go e2) _
/-- a new dict, a new tuple: both put to names -/
theorem q_parDU {i j n : Nat} {S : Sq} {xs : List V} (ha : EvD K ta σ H n S) (hb : EvU tb σ H xs) (k : ∀ p q H1, Ex H H1 → SqD K H1 p n S → H1 q = some (.tup xs) → tz D ((σ.set i (some (.ref p))).set j (some (.ref q))) H1) : tSeq (tPar i j (tCons ta (tCons tb tNil))) tz D σ H :=
  ha H (Ex.refl _) _ fun p H1 hp e1 h1 => hb H1 e1 _ fun q H2 hq e2 h2 => ⟨_, _, rfl, k p q H2 (e1.trans e2) (h1.ex e2) h2⟩
/-- none and none, or a new dict and a new tuple -/
theorem q_parDX {i j n : Nat} {S : Sq} {b : Bool} {xs : List V} (ha : EvDX K ta σ H b n S) (hb : EvX tb σ H b xs) (k1 : b = true → ∀ H1, Ex H H1 → tz D ((σ.set i (some .non)).set j (some .non)) H1)
    (k2 : b = false → ∀ p q H1, Ex H H1 → SqD K H1 p n S → H1 q = some (.tup xs) → tz D ((σ.set i (some (.ref p))).set j (some (.ref q))) H1) : tSeq (tPar i j (tCons ta (tCons tb tNil))) tz D σ H :=
  ha H (Ex.refl _) _ ⟨fun h H1 e1 => hb H1 e1 _ ⟨fun _ H2 e2 => ⟨_, _, rfl, k1 h H2 (e1.trans e2)⟩, fun h2 => by rw [h] at h2; cases h2⟩, fun h p H1 hp e1 h1 => hb H1 e1 _ ⟨fun h2 => (by rw [h] at h2; cases h2), fun _ q H2 hq e2 h2 => ⟨_, _, rfl, k2 h p q H2 (e1.trans e2) (h1.ex e2) h2⟩⟩⟩
theorem q_asgDX {i n : Nat} {S : Sq} {b : Bool} (ha : EvDX K ta σ H b n S) (k1 : b = true → ∀ H1, Ex H H1 → tz D (σ.set i (some .non)) H1) (k2 : b = false → ∀ p H1, Ex H H1 → SqD K H1 p n S → tz D (σ.set i (some (.ref p))) H1) : tSeq (tAsg ta (gName i)) tz D σ H :=
  ha H (Ex.refl _) _ ⟨fun h H1 e1 => k1 h H1 e1, fun h p H1 _ e1 h1 => k2 h p H1 e1 h1⟩
theorem rv_neT {a b : Addr} {xs ys : List Int} (h1 : SqT K H a (xs.map V.int)) (h2 : SqT K H b (ys.map V.int)) : RV (rNeD K) (.ref a) (.ref b) H (.bl (!decide (xs = ys))) := by
  have e := rv_neD (K := K) (x := .ref a) (y := .ref b) (H := H) (fun H1 e => dp_t (ex_t e h1)) (fun H1 e => dp_t (ex_t e h2)) (shaped_tints xs) (shaped_tints ys)
  rw [eqv_tints] at e
  exact e
theorem ev_neTT {a b : Addr} {xs ys : List Int} (ha : Ev ta σ H (.ref a)) (hb : Ev tb σ H (.ref b)) (h1 : SqT K H a (xs.map V.int)) (h2 : SqT K H b (ys.map V.int)) : Ev (tOp (rNeD K) ta tb) σ H (.bl (!decide (xs = ys))) := ev_op ha hb (rv_neT h1 h2)
theorem ev_neTU {a : Addr} {xs ys : List Int} (ha : Ev ta σ H (.ref a)) (hb : EvU tb σ H (ys.map V.int)) (h1 : SqT K H a (xs.map V.int)) : Ev (tOp (rNeD K) ta tb) σ H (.bl (!decide (xs = ys))) := ev_opU ha hb fun p H1 h e => rv_neT (ex_t e h1) (st_of h)
theorem ev_neUT {b : Addr} {xs ys : List Int} (ha : EvU ta σ H (xs.map V.int)) (hb : ∀ H, Ev tb σ H (.ref b)) (h2 : SqT K H b (ys.map V.int)) : Ev (tOp (rNeD K) ta tb) σ H (.bl (!decide (xs = ys))) := fun H1 e Q q =>
  ha H1 e _ fun p H2 hp e2 h => hb H2 H2 (Ex.refl _) _ fun H3 e3 => rv_neT (st_of (e3 p _ h)) (ex_t ((e.trans e2).trans e3) h2) H3 (Ex.refl _) Q fun H4 e4 => q H4 ((e2.trans e3).trans e4)
theorem ev_neX0 {xs : List V} (ha : EvX ta σ H true xs) (hb : ∀ H, Ev tb σ H .non) : Ev (tOp (rNeD K) ta tb) σ H (.bl false) := fun H1 e Q q =>
  ha H1 e _ ⟨fun _ H2 e2 => hb H2 H2 (Ex.refl _) _ fun H3 e3 => ⟨.none, .none, .non, .non, rfl, rfl, by rw [eqv_non]; exact q H3 (e2.trans e3)⟩, fun h => by cases h⟩
theorem ev_neX1 {b : Addr} {xs ys : List Int} (ha : EvX ta σ H false (xs.map V.int)) (hb : ∀ H, Ev tb σ H (.ref b)) (h2 : SqT K H b (ys.map V.int)) : Ev (tOp (rNeD K) ta tb) σ H (.bl (!decide (xs = ys))) :=
  ev_neUT (fun H1 e Q q => ha H1 e Q ⟨fun h => (by cases h), fun _ => q⟩) hb h2
theorem ev_reprNe {a b : Bool} (ha : Ev ta σ H (.bl a)) (hb : Ev tb σ H (.bl b)) (e : a = b) : Ev (tOp rNe (tCB (fun xs H Q => ∃ b, xs = [.bl b] ∧ Q (.str (if b then "True" else "False")) H) (tCons ta tNil)) (tCB (fun xs H Q => ∃ b, xs = [.bl b] ∧ Q (.str (if b then "True" else "False")) H) (tCons tb tNil))) σ H (.bl false) :=
  ev_is (ev_op (ev_repr ha) (ev_repr hb) (rv_ne rfl)) (by rw [e]; simp)
end
end Zb
set_option Elab.async false
set_option linter.all false
set_option maxRecDepth 100000
set_option maxHeartbeats 4000000
namespace Zb
open PySem PySem.Spec PyProof.Rows L2 L2.DX Zg Evl
open StX (pa_star tStar)
open RZ (pi_zipA iZipA ItzT)
open Zm (sumE Sq B zl enc dec fw neg Up both less at3 mids rows cols Edge gmin gall EdgeOk Zn NonNeg Clo)

theorem eb_comb {p d : Addr} {H H1 H2 : Hp} (e : Eb p H H1) (f : Eb d H1 H2) (hd : H d = none) : Eb p H H2 := fun a o ha h => f a o (ne_of_none h hd) (e a o ha h)
theorem pot_eb {N : Nat} {p d : Addr} {H H1 : Hp} (h : PotIn N H p) (e : Eb d H H1) (hd : p ≠ d) : PotIn N H1 p := by
  obtain ⟨a, b, c, h1, h2⟩ := h
  exact ⟨a, b, c, e p _ hd h1, h2⟩
theorem sqm_t {K : PySem.W.Frag} {H H1 : Hp} {d a : Addr} {n m : Nat} {S : Sq} {xs : List V} (hd : SqM K H d n m S) (e : Eb d H H1) (h : SqT K H a xs) : SqT K H1 a xs := by
  obtain ⟨u, h1, _⟩ := hd
  exact eb_tt e h1 (fun _ z => by cases z) (fun _ _ z => by cases z) h
section
variable {K : PySem.W.Frag} {σ : L2.St} {H H' : Hp} {ta tb tc td te tv tx : TE} {t u : TT} {x y z v : V} {r : R2} {D : Ends} {tu tw tz : TS}
theorem q_asgP {p : Addr} {N M i : Nat} {R : V → Prop} (h : EvP p N M te σ R) (hP : PotIn N H p) (k : ∀ v H1, R v → Eb p H H1 → PotIn M H1 p → tz D (σ.set i (some v)) H1) : tSeq (tAsg te (gName i)) tz D σ H := h H hP _ k
theorem q_parU {i j : Nat} {xs : List V} (ha : Ev ta σ H x) (hb : EvU tb σ H xs) (k : ∀ q H1, Ex H H1 → H1 q = some (.tup xs) → tz D ((σ.set i (some x)).set j (some (.ref q))) H1) : tSeq (tPar i j (tCons ta (tCons tb tNil))) tz D σ H :=
  ha H (Ex.refl _) _ fun H1 e1 => hb H1 e1 _ fun q H2 hq e2 h2 => ⟨_, _, rfl, k q H2 (e1.trans e2) h2⟩
theorem q_parPV {p : Addr} {N M i j : Nat} {R : V → Prop} (ha : EvP p N M ta σ R) (hb : ∀ H, Ev tb σ H y) (hP : PotIn N H p) (k : ∀ x H1, R x → Eb p H H1 → PotIn M H1 p → tz D ((σ.set i (some x)).set j (some y)) H1) : tSeq (tPar i j (tCons ta (tCons tb tNil))) tz D σ H :=
  ha H hP _ fun x H1 hx e1 h1 => hb H1 H1 (Ex.refl _) _ fun H2 e2 => ⟨x, y, rfl, k x H2 hx (e1.trans (Eb.of e2)) (h1.ex e2)⟩
/-! ### what the defs promise, to be used in calls -/
theorem su_first {m : Nat} (h1 : 1 ≤ m) (h2 : m ≤ 3) : SpU spFirst [.int m] H (zv (m + 1) fun _ _ => Zm.nil) := fun H1 e Q q E => ⟨m, rfl, h1, h2, q⟩
theorem su_told {d : Addr} {n : Nat} {S : Sq} (hd : SqD K H d n S) (h1 : 1 ≤ n) (h4 : n ≤ 4) : SpU (spTold K) [.ref d, .int n] H (zv n S) := fun H1 e Q q E => ⟨d, n, S, rfl, hd.ex e, h1, h4, q⟩
theorem su_later {a : Addr} {n : Nat} {U : Int} {S : Sq} (h : SqT K H a (zv n S)) (z : Zn n U S) (hU : U ≤ 900) (h1 : 2 ≤ n) (h4 : n ≤ 4) : SpU (spLater K) [.ref a] H (zv n (Zm.lat S)) := fun H1 e Q q E => ⟨a, n, S, rfl, ex_t e h, h1, h4, Zb.Zn.Bd z (by omega), zoneB_zn z (by omega) (by omega), q⟩
theorem sd_later {d : Addr} {n : Nat} {S : Sq} (hd : SqD K H d n S) (h1 : 1 ≤ n) (h4 : n ≤ 4) : SpD K (spLLater K) [.ref d, .int n] H n (Zm.lat S) := fun H1 e Q q E => ⟨d, n, S, rfl, hd.ex e, h1, h4, q⟩
theorem sv_in {a v : Addr} {n : Nat} {U : Int} {S : Sq} {qs : List (Int × Int)} (h : SqT K H a (zv n S)) (z : Zn n U S) (hU : U ≤ 900) (hv : RwT K H v (qs.map fvs)) (hq : qs.length + 1 = n) (h1 : 2 ≤ n) (h4 : n ≤ 4) (hf : ∀ q ∈ qs, FrOk q) : SpV (spInZone K) [.ref a, .ref v] H (.bl (holdsB n S (ev0 qs))) := fun H1 e Q q E => ⟨a, v, n, S, qs, rfl, ex_t e h, hv.ex e, hq, h1, h4, hf, Zb.Zn.Bd z (by omega), zoneB_zn z (by omega) (by omega), fun H2 e2 => q H2 e2⟩
theorem sv_hold {d v : Addr} {n : Nat} {S : Sq} {qs : List (Int × Int)} (hd : SqD K H d n S) (hv : RwT K H v (qs.map fvs)) (hq : qs.length + 1 = n) (h4 : n ≤ 4) (hf : ∀ q ∈ qs, FrOk q) : SpV (spLHolds K) [.ref d, .int n, .ref v] H (.bl (holdsB n S (ev0 qs))) := fun H1 e Q q E => ⟨d, v, n, S, qs, rfl, hd.ex e, hv.ex e, hq, h4, hf, fun H2 e2 => q H2 e2⟩
theorem sv_within {a b : Addr} {n : Nat} {U V1 : Int} {S R : Sq} (ha : SqT K H a (zv n S)) (hb : SqT K H b (zv n R)) (zS : Zn n U S) (zR : Zn n V1 R) (hU : U ≤ 900) (hV : V1 ≤ 900) (h1 : 2 ≤ n) (h4 : n ≤ 4) : SpV (spWithin K) [.ref a, .ref b] H (.bl (intsLe (zl n S) (zl n R))) := fun H1 e Q q E => ⟨a, b, n, S, R, rfl, ex_t e ha, ex_t e hb, h1, h4, Zb.Zn.Bd zS (by omega), Zb.Zn.Bd zR (by omega), zoneB_zn zS (by omega) (by omega), zoneB_zn zR (by omega) (by omega), fun H2 e2 => q H2 e2⟩
theorem sx_with {a g : Addr} {n : Nat} {U : Int} {S : Sq} {gs : List Zm.Gi} (ha : SqT K H a (zv n S)) (hg : RwT K H g (gs.map gvs)) (ok : ∀ g ∈ gs, Zm.GiOk n g) (z : Zn n U S) (h0 : 0 ≤ U) (hU : U ≤ 900) (h1 : 2 ≤ n) (h4 : n ≤ 4) (hl : gs.length ≤ 1000) :
    SpX (spWith K) [.ref a, .ref g] H (neg n (fw n (gall S (gs.map Zm.Gi.edge)))) (zv n (fw n (gall S (gs.map Zm.Gi.edge)))) := fun H1 e Q q E => ⟨a, g, n, S, gs, rfl, ex_t e ha, hg.ex e, ok, h1, h4, hl, Zb.Zn.Bd z hU, zoneB_zn z (by omega) (by omega), fun hn => Zb.Zn.Bd (Zm.zn_guard z (by omega) h0 (fun e he => by
      obtain ⟨g, hg, rfl⟩ := List.mem_map.mp he
      exact (ok g hg).edge) (Zm.neg_iff.mp hn)) (by omega), q⟩
theorem sdx_kept {d g : Addr} {n : Nat} {S : Sq} {gs : List Zm.Gi} (hd : SqD K H d n S) (hg : RwT K H g (gs.map gvs)) (ok : ∀ g ∈ gs, Zm.GiOk n g) (h1 : 1 ≤ n) (h4 : n ≤ 4) (hl : gs.length ≤ 1000) :
    SpDX K (spKept K) [.ref d, .int n, .ref g] H (neg n (fw n (gall S (gs.map Zm.Gi.edge)))) n (fw n (gall S (gs.map Zm.Gi.edge))) := fun H1 e Q q E => ⟨d, g, n, S, gs, rfl, hd.ex e, hg.ex e, ok, h1, h4, hl, q⟩
theorem su_set {a p : Addr} {n : Nat} {U : Int} {S : Sq} {ps : List Nat} (ha : SqT K H a (zv n S)) (hp : SqT K H p (ps.map fun i : Nat => V.int ((i : Nat) : Int))) (hps : ∀ i ∈ ps, i + 1 < n) (z : Zn n U S) (hU : U ≤ 900) (h1 : 2 ≤ n) (h4 : n ≤ 4) (hl : ps.length ≤ 1000) : SpU (spZoneSet K) [.ref a, .ref p] H (zv n (Zm.sbAll S ps)) := fun H1 e Q q E => ⟨a, p, n, S, ps, rfl, ex_t e ha, ex_t e hp, hps, h1, h4, hl, Zb.Zn.Bd z (by omega), zoneB_zn z (by omega) (by omega), q⟩
theorem sd_back {d p : Addr} {n : Nat} {S : Sq} {ps : List Nat} (hd : SqD K H d n S) (hp : SqT K H p (ps.map fun i : Nat => V.int ((i : Nat) : Int))) (hps : ∀ i ∈ ps, i + 1 < n) (h1 : 1 ≤ n) (h4 : n ≤ 4) : SpD K (spLBack K) [.ref d, .int n, .ref p] H n (Zm.sbAll S ps) := fun H1 e Q q E => ⟨d, p, n, S, ps, rfl, hd.ex e, ex_t e hp, hps, h1, h4, q⟩
theorem sv_lzone {a : Addr} {n : Nat} {S : Sq} (h : SqT K H a (zv n S)) (hc : ∀ i j, i < n → j < n → Zm.Cl1 (S i j)) (h1 : 1 ≤ n) (h4 : n ≤ 4) : SpV (spLZone K) [.ref a, .int n] H (.bl (lawB n S)) := fun H1 e Q q E => ⟨a, n, S, rfl, ex_t e h, hc, h1, h4, fun H2 e2 => q H2 e2⟩
/-- all([mine <= its for mine, its in zip(one, other)]), in the law itself -/
theorem ev_allLe {a b : Addr} {xs ys : List Int} {i j : Nat} {t1 t2 : TE} {vs : List Nat} {ta tb : TE} (h1 : Ev t1 σ H (.ref a)) (h2 : Ev t2 σ H (.ref b)) (hx : SqT K H a (xs.map V.int)) (hy : SqT K H b (ys.map V.int)) (hl : xs.length = ys.length) (hz : xs.length ≤ 1000)
    (ha : ∀ (x y : V) H, Ev ta (((wipe σ vs).set i (some x)).set j (some y)) H x) (hb : ∀ (x y : V) H, Ev tb (((wipe σ vs).set i (some x)).set j (some y)) H y) (hw : ∀ x y, wipe (((wipe σ vs).set i (some x)).set j (some y)) vs = wipe σ vs) :
    Ev (tCB (rAll K) (tCons (tLc (iZipA K (tCons t1 (tCons t2 tNil))) (gTup K 2 (gCons (gName i) (gCons (gName j) gNil))) tYes (tOp (rI0 fun i j => .bl (decide (i ≤ j))) ta tb) vs) tNil)) σ H (.bl (intsLe xs ys)) :=
  ev_is (ev_allZ leV (ea_cons h1 (ea_cons h2 ea_nil)) hx hy (by rw [List.length_map, List.length_map, hl]) (by rw [List.length_map]; omega) fun x y T H1 H2 e1 hm e2 hT Q' k' => by
    obtain ⟨m, hm⟩ := List.mem_iff_getElem?.mp hm
    obtain ⟨hx, hy⟩ := List.getElem?_zip_eq_some.mp hm
    rw [List.getElem?_map] at hx hy
    obtain ⟨x1, _, ex⟩ := Option.map_eq_some_iff.mp hx
    obtain ⟨y1, _, ey⟩ := Option.map_eq_some_iff.mp hy
    dsimp only at ex ey
    subst ex ey
    refine g_unp2 (st_of hT) (k' _ (hw _ _) ?_)
    exact ev_op (ha _ _ _) (hb _ _ _) rv_I0) (congrArg V.bl (intsLe_v xs ys))
theorem ev_callRw {sp : Sp} {E : XK} {xss : List (List V)} (ha : Ev ta σ H x) (hb : EvRw K tb σ H xss) (hs : ∀ q H1, Ex H H1 → RwT K H1 q xss → SpV sp [x, .ref q] H1 z) : Ev (tCall sp [] E (tCons ta (tCons tb tNil))) σ H z := fun H1 e Q q =>
  ha H1 e _ fun H2 e2 => hb H2 (e.trans e2) _ fun a H3 _ e3 h3 => hs a H3 ((e.trans e2).trans e3) h3 H3 (Ex.refl _) Q (fun H4 e4 => q H4 ((e2.trans e3).trans e4)) _
theorem eu_callU {sp : Sp} {E : XK} {xs ys : List V} (ha : Ev ta σ H x) (hb : EvU tb σ H xs) (hs : ∀ q H1, Ex H H1 → H1 q = some (.tup xs) → SpU sp [x, .ref q] H1 ys) : EvU (tCall sp [] E (tCons ta (tCons tb tNil))) σ H ys := fun H1 e Q q =>
  ha H1 e _ fun H2 e2 => hb H2 (e.trans e2) _ fun a H3 _ e3 h3 => hs a H3 ((e.trans e2).trans e3) h3 H3 (Ex.refl _) Q (fun p H4 hp e4 h4 => q p H4 (fresh_back (e2.trans e3) hp) ((e2.trans e3).trans e4) h4) _
theorem ex_callRv {sp : Sp} {E : XK} {b : Bool} {xs : List V} {g : Addr} {xss : List (List V)} (ha : Ev ta σ H x) (hb : Ev tb σ H (.ref g)) (hg : RwT K H g xss) (hs : ∀ q H1, Ex H H1 → RwT K H1 q xss.reverse → SpX sp [x, .ref q] H1 b xs) : EvX (tCall sp [] E (tCons ta (tCons (tRevT K tb) tNil))) σ H b xs := fun H1 e Q q =>
  ha H1 e _ fun H2 e2 => hb H2 (e.trans e2) _ fun H3 e3 => by
    obtain ⟨as, h1, h2⟩ := hg.ex ((e.trans e2).trans e3)
    refine ⟨g, as.map V.ref, rfl, h1, fun r hr => ?_⟩
    have eN := Ex.new (o := .tup (as.map V.ref).reverse) hr
    refine hs r _ (((e.trans e2).trans e3).trans eN) ⟨as.reverse, ?_, ?_⟩ _ (Ex.refl _) Q (q.go ((e2.trans e3).trans eN)) _
    · rw [List.map_reverse]
      exact st_of upd_same
    · have h3 := h2.ex eN
      refine ⟨by rw [List.length_reverse, List.length_reverse, h3.1], fun i a xs q1 q2 => ?_⟩
      have hi : i < as.length := by
        have := (List.getElem?_eq_some_iff.mp q1).1
        rw [List.length_reverse] at this
        exact this
      rw [List.getElem?_reverse hi] at q1
      rw [List.getElem?_reverse (by rw [← h3.1]; exact hi)] at q2
      rw [← h3.1] at q2
      exact h3.2 _ a xs q1 q2
theorem edx_callD {sp : Sp} {E : XK} {b : Bool} {n : Nat} {S R : Sq} (ha : EvD K ta σ H n R) (hb : Ev tb σ H y) (hc : Ev tc σ H z) (hs : ∀ q H1, Ex H H1 → SqD K H1 q n R → SpDX K sp [.ref q, y, z] H1 b n S) : EvDX K (tCall sp [] E (tCons ta (tCons tb (tCons tc tNil)))) σ H b n S := fun H1 e Q q =>
  ha H1 e _ fun a H2 _ e2 h2 => hb H2 (e.trans e2) _ fun H3 e3 => hc H3 ((e.trans e2).trans e3) _ fun H4 e4 => hs a H4 (((e.trans e2).trans e3).trans e4) (h2.ex (e3.trans e4)) H4 (Ex.refl _) Q (q.go ((e2.trans e3).trans e4)) _
def VD (K : PySem.W.Frag) (H : Hp) (v : V) (b : Bool) (n : Nat) (S : Sq) : Prop := (b = true ∧ v = .non) ∨ (b = false ∧ ∃ p, v = .ref p ∧ SqD K H p n S)
theorem q_asgVD {i n : Nat} {S : Sq} {b : Bool} (ha : EvDX K ta σ H b n S) (k : ∀ v H1, Ex H H1 → VD K H1 v b n S → tz D (σ.set i (some v)) H1) : tSeq (tAsg ta (gName i)) tz D σ H :=
  ha H (Ex.refl _) _ ⟨fun h H1 e1 => k _ H1 e1 (.inl ⟨h, rfl⟩), fun h p H1 _ e1 h1 => k _ H1 e1 (.inr ⟨h, p, rfl, h1⟩)⟩
theorem q_asgRw {i : Nat} {xss : List (List V)} (ha : EvRw K ta σ H xss) (k : ∀ p H1, Ex H H1 → RwT K H1 p xss → tz D (σ.set i (some (.ref p))) H1) : tSeq (tAsg ta (gName i)) tz D σ H := ha H (Ex.refl _) _ fun p H1 _ e h => k p H1 e h
theorem sd_free {n : Nat} (h1 : 1 ≤ n) (h4 : n ≤ 4) : SpD K (spFree K) [.int n] H n freeS := fun H1 e Q q E => ⟨n, rfl, h1, h4, q⟩
end
end Zb
set_option Elab.async false
set_option linter.all false
set_option maxRecDepth 100000
set_option maxHeartbeats 4000000
namespace Zb
open PySem PySem.Spec PyProof.Rows L2 L2.DX Zg Evl
open StX (pa_star tStar)
open RZ (pi_zipA iZipA ItzT)
open Zm (sumE Sq B zl enc dec fw neg Up both less at3 mids rows cols Edge gmin gall EdgeOk Zn NonNeg Clo)

section
variable {P : Program} {w : World} {K : PySem.W.Frag} {mg : Str → Option Value} {base : Heap} {aU aC : Addr}
theorem bent_is {n m : Nat} {S : Sq} {d : Int} {H : Hp} {b : Addr} (hm : m < n * n) (h : SqT K H b (((zl n S).set m (enc (S (m / n) (m % n)) + d)).map V.int)) : SqT K H b (zv n (Zm.put S (m / n) (m % n) (Zm.dec (enc (S (m / n) (m % n)) + d)))) := by
  have e := Zm.zl_set (n := n) (S := S) (v := Zm.dec (enc (S (m / n) (m % n)) + d)) (Zm.div_lt_of hm) (Zm.mod_lt_of hm)
  rw [Zm.place_of, Zm.enc_dec] at e
  unfold zv
  rw [← e]
  exact h
theorem bent_bd {n m : Nat} {S : Sq} {d : Int} (hB : Bd 900 n S) (hi : m / n < n) (hj : m % n < n) (hne : enc (S (m / n) (m % n)) ≠ 1000000) (hd : d = 1 ∨ d = -1) : Bd 1000 n (Zm.put S (m / n) (m % n) (Zm.dec (enc (S (m / n) (m % n)) + d))) := fun i j hi' hj' x hx => by
  by_cases q : i = m / n ∧ j = m % n
  · rw [q.1, q.2, Zm.put_same] at hx
    cases hS : S (m / n) (m % n) with
    | none =>
      rw [hS] at hne
      exact absurd rfl hne
    | some y =>
      have h1 := hB _ _ hi hj y hS
      have h2 := Zm.enc_le y
      rw [hS] at hx
      rw [dec_if] at hx
      split at hx
      · cases hx
      · have e := Option.some.inj hx
        rw [← e]
        show -1000 ≤ (enc (some y) + d) / 2 ∧ (enc (some y) + d) / 2 ≤ 1000
        rcases hd with rfl | rfl <;> omega
  · rw [Zm.put_ne q] at hx
    have := hB i j hi' hj' x hx
    omega
def spRight : Sp := fun vs H Q _ => ∃ p : Addr, vs = [.ref p] ∧ PotIn 0 H p ∧ ∀ H2, Eb p H H2 → Q (.bl true) H2
theorem c__law_right (T : Tx K mg aU aC) (D : Df K mg "_law_right" s__law_right ["pot"]) (c__law_take : Cl P w K mg base 1 "_law_take" spTake) (c_first_zone : Cl P w K mg base 3 "first_zone" spFirst) (c__law_told : Cl P w K mg base 1 "_law_told" (spTold K)) (c__law_value : Cl P w K mg base 3 "_law_value" (spValue K))
    (c_is_in_zone : Cl P w K mg base 6 "is_in_zone" (spInZone K)) (c__law_holds : Cl P w K mg base 1 "_law_holds" (spLHolds K)) (c_later_zone : Cl P w K mg base 6 "later_zone" (spLater K)) (c__law_later : Cl P w K mg base 1 "_law_later" (spLLater K)) (c__law_plus : Cl P w K mg base 1 "_law_plus" (spPlus K)) (c_is_zone_within : Cl P w K mg base 6 "is_zone_within" (spWithin K))
    (c__law_guard : Cl P w K mg base 3 "_law_guard" (spLGuard K)) (c_zone_with : Cl P w K mg base 6 "zone_with" (spWith K)) (c__law_kept : Cl P w K mg base 3 "_law_kept" (spKept K)) (c__law_free : Cl P w K mg base 1 "_law_free" (spFree K)) (c_zone_set : Cl P w K mg base 6 "zone_set" (spZoneSet K)) (c__law_put_back : Cl P w K mg base 1 "_law_put_back" (spLBack K))
    (c_is_zone : Cl P w K mg base 4 "is_zone" (spZone K)) (c__law_of : Cl P w K mg base 2 "_law_of" (spOf K)) (c__law_is_zone : Cl P w K mg base 3 "_law_is_zone" (spLZone K)) : Cl P w K mg base 7 "_law_right" spRight := by
  refine D.cl sc__law_right (fun vs H Q E h => by obtain ⟨_, rfl, _⟩ := h; rfl) (fun f cdv A outer s H vs Q E hr h => ?_)
  obtain ⟨p, rfl, hP, k⟩ := h
  refine ⟨_, (pss_cons (ps_set (i := 1) sc__law_right.nd rfl (.inr rfl) (pe_op op_add pe_int (pe_cl c__law_take hr (by decide) (by rfl) (pa_cons (pv 0) (pa_cons pe_int pa_nil)))))
      (pss_cons (ps_par (i := 2) (j := 3) rfl sc__law_right.nd rfl rfl (by decide) rfl rfl (pa_cons (pe_op op_add (pv 1) pe_int) (pa_cons (pe_cl c_first_zone hr (by decide) (by rfl) (pa_cons (pv 1) pa_nil)) pa_nil)) rfl)
      (pss_cons (ps_set (i := 4) sc__law_right.nd rfl (.inl rfl) pe_dnewT)
      (pss_cons (ps_for PassesOwn.never rfl (pi_range1 (by rfl) T.n_range (pa_cons (pv 2) pa_nil)) (pg_name (i := 5) sc__law_right.nd rfl (.inr rfl)) (pss_one (ps_expr (pe_bm PySem.F.plainAttrs_dict PySem.F.slot_dict_update PySem.F.type_dict_update (mt_updT (hu_of hr)) (pv 4) (pa_cons (pe_callTy (call_dictPT rfl (hu64 hr)) (by rfl) T.n_dict (by decide +kernel) (pa_cons (pe_lc (own := [("to", 22)]) rfl sc__law_right.nd (pi_range1 (by rfl) T.n_range (pa_cons (pv 2) pa_nil)) (blkOk_by (N := N__law_right) (sc := defScope s__law_right) (by decide +kernel)) (fun _ _ _ _ _ => (pg_name (i := 22) sc__law_right.nd rfl (.inl rfl))) (fun _ _ _ _ _ => pts_nil) (fun _ _ _ _ _ => (pe_tup (pa_cons (pe_tup (pa_cons (pv 5) (pa_cons (pv 22) pa_nil))) (pa_cons (pe_tup (pa_cons pe_int (pa_cons pe_bl pa_nil))) pa_nil))))) pa_nil)) pa_nil)))))
      (pss_cons (ps_if (pt_cmpR (neDK (K := K) (hu64 hr)) (pv 3) (pe_cl c__law_told hr (by decide) (by rfl) (pa_cons (pv 4) (pa_cons (pv 2) pa_nil))) (nomark _)) (pss_one (ps_ret pe_bl)) pss_nil)
      (pss_cons (ps_for PassesOwn.never rfl (pi_range1 (by rfl) T.n_range (pa_cons (pe_op op_add pe_int (pe_cl c__law_take hr (by decide) (by rfl) (pa_cons (pv 0) (pa_cons pe_int pa_nil)))) pa_nil)) (pg_name (i := 6) sc__law_right.nd rfl (.inl rfl)) (pss_cons (ps_par (i := 7) (j := 8) rfl sc__law_right.nd rfl rfl (by decide) rfl rfl (pa_cons (pe_cl c__law_take hr (by decide) (by rfl) (pa_cons (pv 0) (pa_cons pe_int pa_nil))) (pa_cons (pv 3) pa_nil)) rfl)
      (pss_cons (ps_set (i := 9) sc__law_right.nd rfl (.inl rfl) (pe_callTy (tupK (K := K)) (by rfl) T.n_tuple (by decide +kernel) (pa_cons (pe_lc (own := [("clock", 21)]) rfl sc__law_right.nd (pi_range1 (by rfl) T.n_range (pa_cons (pv 1) pa_nil)) (blkOk_by (N := N__law_right) (sc := defScope s__law_right) (by decide +kernel)) (fun _ _ _ _ _ => (pg_name (i := 21) sc__law_right.nd rfl (.inl rfl))) (fun _ _ _ _ _ => pts_nil) (fun _ _ _ _ _ => (pe_cl c__law_value hr (by decide) (by rfl) (pa_cons (pv 0) pa_nil)))) pa_nil)))
      (pss_cons (ps_if (pt_cmpR op_ne (pe_callB call_repr_bool (by rfl) T.n_repr (by decide +kernel) (pa_cons (pe_cl c_is_in_zone hr (by decide) (by rfl) (pa_cons (pv 3) (pa_cons (pv 9) pa_nil))) pa_nil)) (pe_callB call_repr_bool (by rfl) T.n_repr (by decide +kernel) (pa_cons (pe_cl c__law_holds hr (by decide) (by rfl) (pa_cons (pv 4) (pa_cons (pv 2) (pa_cons (pv 9) pa_nil)))) pa_nil)) (nomark _)) (pss_one (ps_ret pe_bl)) pss_nil)
      (pss_cut (ps_if (pt_cmpR op_eq (pv 7) pe_int (nomark _)) (pss_cons (ps_par (i := 4) (j := 3) rfl sc__law_right.nd rfl rfl (by decide) rfl rfl (pa_cons (pe_cl c__law_later hr (by decide) (by rfl) (pa_cons (pv 4) (pa_cons (pv 2) pa_nil))) (pa_cons (pe_cl c_later_zone hr (by decide) (by rfl) (pa_cons (pv 3) pa_nil)) pa_nil)) rfl)
      (pss_cons (ps_set (i := 10) sc__law_right.nd rfl (.inr rfl) (pe_cl c__law_value hr (by decide) (by rfl) (pa_cons (pv 0) pa_nil)))
      (pss_cons (ps_if (PW.pt (pw_and (pt_val (pe_cl c_is_in_zone hr (by decide) (by rfl) (pa_cons (pv 8) (pa_cons (pv 9) pa_nil)))) (pw_and1 (pt_not (pt_val (pe_cl c_is_in_zone hr (by decide) (by rfl) (pa_cons (pv 3) (pa_cons (pe_callTy (tupK (K := K)) (by rfl) T.n_tuple (by decide +kernel) (pa_cons (pe_lc (own := [("one", 24)]) rfl sc__law_right.nd (pi_tup (pv 9)) (blkOk_by (N := N__law_right) (sc := defScope s__law_right) (by decide +kernel)) (fun _ _ _ _ _ => (pg_name (i := 24) sc__law_right.nd rfl (.inl rfl))) (fun _ _ _ _ _ => pts_nil) (fun _ _ _ _ _ => (pe_cl c__law_plus hr (by decide) (by rfl) (pa_cons (pv 24) (pa_cons (pv 10) pa_nil))))) pa_nil)) pa_nil)))))))) (pss_one (ps_ret pe_bl)) pss_nil)
      (pss_one (ps_if (PW.pt (pw_or (pt_cmpR op_notBl (pe_cl c_is_zone_within hr (by decide) (by rfl) (pa_cons (pv 8) (pa_cons (pv 3) pa_nil))) pe_bl (nomark _)) (pw_or1 (pt_cmpR (neDK (K := K) (hu64 hr)) (pe_cl c_later_zone hr (by decide) (by rfl) (pa_cons (pv 3) pa_nil)) (pv 3) (nomark _))))) (pss_one (ps_ret pe_bl)) pss_nil))))) (pss_one (ps_if (pt_cmpR op_lt (pv 7) pe_int (nomark _)) (pss_cons (ps_set (i := 11) sc__law_right.nd rfl (.inl rfl) (pe_cl c__law_guard hr (by decide) (by rfl) (pa_cons (pv 0) (pa_cons (pv 1) pa_nil))))
      (pss_cons (ps_par (i := 12) (j := 13) rfl sc__law_right.nd rfl rfl (by decide) rfl rfl (pa_cons (pe_cl c__law_kept hr (by decide) (by rfl) (pa_cons (pv 4) (pa_cons (pv 2) (pa_cons (pv 11) pa_nil)))) (pa_cons (pe_cl c_zone_with hr (by decide) (by rfl) (pa_cons (pv 3) (pa_cons (pv 11) pa_nil))) pa_nil)) rfl)
      (pss_cons (ps_if (PW.pt (pw_or (pt_cmpR op_ne (pe_cmpR op_isN (pv 13) pe_non (nomark _)) (pe_cmpR op_isN (pv 12) pe_non (nomark _)) (nomark _)) (pw_or1 (pt_cmpR (neDK (K := K) (hu64 hr)) (pe_cl c_zone_with hr (by decide) (by rfl) (pa_cons (pv 3) (pa_cons (pe_revT (pv 11)) pa_nil))) (pv 13) (nomark _))))) (pss_one (ps_ret pe_bl)) pss_nil)
      (pss_one (ps_if (pt_cmpR op_notN (pv 13) pe_non (nomark _)) (pss_cons (ps_set (i := 14) sc__law_right.nd rfl (.inl rfl) (pe_cl c__law_kept hr (by decide) (by rfl) (pa_cons (pe_cl c__law_free hr (by decide) (by rfl) (pa_cons (pv 2) pa_nil)) (pa_cons (pv 2) (pa_cons (pv 11) pa_nil)))))
      (pss_cons (ps_set (i := 15) sc__law_right.nd rfl (.inl rfl) (pe_and (pe_cmpR op_notN (pv 14) pe_non (nomark _)) (pe_one (pe_cl c__law_holds hr (by decide) (by rfl) (pa_cons (pv 14) (pa_cons (pv 2) (pa_cons (pv 9) pa_nil)))))))
      (pss_cons (ps_if (pt_cmpR op_ne (pe_callB call_repr_bool (by rfl) T.n_repr (by decide +kernel) (pa_cons (pe_cl c_is_in_zone hr (by decide) (by rfl) (pa_cons (pv 13) (pa_cons (pv 9) pa_nil))) pa_nil)) (pe_callB call_repr_bool (by rfl) T.n_repr (by decide +kernel) (pa_cons (pe_and (pe_cl c_is_in_zone hr (by decide) (by rfl) (pa_cons (pv 8) (pa_cons (pv 9) pa_nil))) (pe_one (pv 15))) pa_nil)) (nomark _)) (pss_one (ps_ret pe_bl)) pss_nil)
      (pss_cons (ps_par (i := 4) (j := 3) rfl sc__law_right.nd rfl rfl (by decide) rfl rfl (pa_cons (pv 12) (pa_cons (pv 13) pa_nil)) rfl)
      (pss_one (ps_if (PW.pt (pw_or (pt_cmpR op_notBl (pe_cl c_is_zone_within hr (by decide) (by rfl) (pa_cons (pv 3) (pa_cons (pv 8) pa_nil))) pe_bl (nomark _)) (pw_or1 (pt_cmpR (neDK (K := K) (hu64 hr)) (pe_cl c_zone_with hr (by decide) (by rfl) (pa_cons (pv 3) (pa_cons (pv 11) pa_nil))) (pv 3) (nomark _))))) (pss_one (ps_ret pe_bl)) pss_nil)))))) pss_nil))))) (pss_cons (ps_set (i := 16) sc__law_right.nd rfl (.inr rfl) (pe_callTy (tupK (K := K)) (by rfl) T.n_tuple (by decide +kernel) (pa_cons (pe_lc (own := [("spot", 23)]) rfl sc__law_right.nd (pi_range1 (by rfl) T.n_range (pa_cons (pe_cl c__law_take hr (by decide) (by rfl) (pa_cons (pv 0) (pa_cons pe_int pa_nil))) pa_nil)) (blkOk_by (N := N__law_right) (sc := defScope s__law_right) (by decide +kernel)) (fun _ _ _ _ _ => (pg_name (i := 23) sc__law_right.nd rfl (.inl rfl))) (fun _ _ _ _ _ => pts_nil) (fun _ _ _ _ _ => (pe_cl c__law_take hr (by decide) (by rfl) (pa_cons (pv 0) (pa_cons (pv 1) pa_nil))))) pa_nil)))
      (pss_cons (ps_par (i := 4) (j := 3) rfl sc__law_right.nd rfl rfl (by decide) rfl rfl (pa_cons (pe_cl c__law_put_back hr (by decide) (by rfl) (pa_cons (pv 4) (pa_cons (pv 2) (pa_cons (pv 16) pa_nil)))) (pa_cons (pe_cl c_zone_set hr (by decide) (by rfl) (pa_cons (pv 3) (pa_cons (pv 16) pa_nil))) pa_nil)) rfl)
      (pss_cons (ps_set (i := 17) sc__law_right.nd rfl (.inl rfl) (pv 8))
      (pss_cons (ps_for PassesOwn.never rfl (pi_tup (pv 16)) (pg_name (i := 18) sc__law_right.nd rfl (.inl rfl)) (pss_one (ps_set (i := 17) sc__law_right.nd rfl (.inl rfl) (pe_cl c_zone_set hr (by decide) (by rfl) (pa_cons (pv 17) (pa_cons (pe_tup (pa_cons (pv 18) pa_nil)) pa_nil))))))
      (pss_cons (ps_set (i := 19) sc__law_right.nd rfl (.inl rfl) (pe_callTy (tupK (K := K)) (by rfl) T.n_tuple (by decide +kernel) (pa_cons (pe_lc (own := [("at", 5), ("one", 24)]) rfl sc__law_right.nd (pi_enumT (by rfl) T.n_enumerate (pa_cons (pv 9) pa_nil)) (blkOk_by (N := N__law_right) (sc := defScope s__law_right) (by decide +kernel)) (fun _ _ _ _ _ => (tgK (K := K) (n := 2) rfl (pgs_cons (pg_name (i := 5) sc__law_right.nd rfl (.inl rfl)) (pgs_cons (pg_name (i := 24) sc__law_right.nd rfl (.inl rfl)) pgs_nil)))) (fun _ _ _ _ _ => pts_nil) (fun _ _ _ _ _ => (pe_ifExp (pt_cmpR (inK (K := K)) (pv 5) (pv 16) (by with_unfolding_all rfl)) (pe_tup (pa_cons pe_int (pa_cons pe_int pa_nil))) (pv 24)))) pa_nil)))
      (pss_one (ps_if (PW.pt (pw_or (pt_cmpR (neDK (K := K) (hu64 hr)) (pv 17) (pv 3) (nomark _)) (pw_or1 (PW.pt (pw_and (pt_val (pe_cl c_is_in_zone hr (by decide) (by rfl) (pa_cons (pv 8) (pa_cons (pv 9) pa_nil)))) (pw_and1 (pt_not (pt_val (pe_cl c_is_in_zone hr (by decide) (by rfl) (pa_cons (pv 3) (pa_cons (pv 19) pa_nil))))))))))) (pss_one (ps_ret pe_bl)) pss_nil))))))))))
      (pss_cons (ps_if (PW.pt (pw_or (pt_cmpR (neDK (K := K) (hu64 hr)) (pv 3) (pe_cl c__law_told hr (by decide) (by rfl) (pa_cons (pv 4) (pa_cons (pv 2) pa_nil))) (nomark _)) (pw_or1 (pt_cmpR op_notBl (pe_cl c_is_zone hr (by decide) (by rfl) (pa_cons (pv 3) pa_nil)) pe_bl (nomark _))))) (pss_one (ps_ret pe_bl)) pss_nil)
      (pss_cons (ps_set (i := 5) sc__law_right.nd rfl (.inr rfl) (pe_cl c__law_take hr (by decide) (by rfl) (pa_cons (pv 0) (pa_cons (pe_op op_mul (pv 2) (pv 2)) pa_nil))))
      (pss_cons (ps_set (i := 20) sc__law_right.nd rfl (.inl rfl) (pe_op (catK (K := K)) (pe_op (catK (K := K)) (pe_slice (slK (K := K)) (pv 3) po_none (po_some (pv 5))) (pe_tup (pa_cons (pe_op op_add (pe_ix (ixT (K := K)) (pv 3) (pv 5) (fun _ _ => rfl)) (pe_cl c__law_of hr (by decide) (by rfl) (pa_cons (pv 0) (pa_cons (pe_lst (pa_cons pe_int (pa_cons (pe_un un_neg pe_int) pa_nil))) pa_nil)))) pa_nil))) (pe_slice (slK (K := K)) (pv 3) (po_some (pe_op op_add (pv 5) pe_int)) po_none)))
      (pss_cons (ps_if (PW.pt (pw_and (pt_cmpR op_ne (pe_ix (ixT (K := K)) (pv 3) (pv 5) (fun _ _ => rfl)) pe_int (nomark _)) (pw_and1 (pt_cmpR op_ne (pe_callB call_repr_bool (by rfl) T.n_repr (by decide +kernel) (pa_cons (pe_cl c_is_zone hr (by decide) (by rfl) (pa_cons (pv 20) pa_nil)) pa_nil)) (pe_callB call_repr_bool (by rfl) T.n_repr (by decide +kernel) (pa_cons (pe_cl c__law_is_zone hr (by decide) (by rfl) (pa_cons (pv 20) (pa_cons (pv 2) pa_nil))) pa_nil)) (nomark _))))) (pss_one (ps_ret pe_bl)) pss_nil)
      (pss_one (ps_if (pt_cmpR op_ne (pe_callB call_repr_bool (by rfl) T.n_repr (by decide +kernel) (pa_cons (pe_cl c_is_zone_within hr (by decide) (by rfl) (pa_cons (pv 3) (pa_cons (pv 8) pa_nil))) pa_nil)) (pe_callB call_repr_bool (by rfl) T.n_repr (by decide +kernel) (pa_cons (pe_callB (allK (K := K) rfl) (by rfl) T.n_all (by decide +kernel) (pa_cons (pe_lc (own := [("mine", 25), ("its", 12)]) rfl sc__law_right.nd (pi_zipA (by rfl) T.n_zip (pa_cons (pv 3) (pa_cons (pv 8) pa_nil))) (blkOk_by (N := N__law_right) (sc := defScope s__law_right) (by decide +kernel)) (fun _ _ _ _ _ => (tgK (K := K) (n := 2) rfl (pgs_cons (pg_name (i := 25) sc__law_right.nd rfl (.inl rfl)) (pgs_cons (pg_name (i := 12) sc__law_right.nd rfl (.inl rfl)) pgs_nil)))) (fun _ _ _ _ _ => pts_nil) (fun _ _ _ _ _ => (pe_cmpR op_le (pv 25) (pv 12) (nomark _)))) pa_nil)) pa_nil)) (nomark _)) (pss_one (ps_ret pe_bl)) pss_nil)))))))))))
      (pss_one (ps_ret pe_bl)))))))), ?_⟩
  refine q_asgP (ep_add1 (ep_take (u := 3) (fun _ => ev_var rfl) (fun _ => ev_c) (by decide) (by decide) (by decide))) hP fun v H1 hv e1 hP1 => ?_
  obtain ⟨c, hc1, hc3, rfl⟩ := hv
  have h4 : c + 1 ≤ 4 := by omega
  have h2 : 2 ≤ c + 1 := by omega
  have hn : (0 : Int) ≤ ((c + 1 : Nat) : Int) ∧ ((c + 1 : Nat) : Int) ≤ 100000 := ⟨by omega, by omega⟩
  refine q_parU (x := .int ((c + 1 : Nat) : Int)) (ev_is (ev_op (ev_var rfl) ev_c rv_I0) (by simp)) (eu_call (ea_cons (ev_var rfl) ea_nil) (su_first hc1 hc3)) fun z H2 e2 hz => ?_
  have hP2 := hP1.ex e2
  refine q_dnew (K := K) (n := c + 1) (S := fun _ _ => Zm.nil) fun d H3 hd e3 h3d => ?_
  have hP3 := hP2.ex e3
  have e03 : Eb p H H3 := e1.trans (Eb.of (e2.trans e3))
  have hpd : p ≠ d := fun q => by
    obtain ⟨ys, hp⟩ := hP2.at
    rw [← q, hp] at hd
    cases hd
  have hd0 : H d = none := e1.free (Ne.symm hpd) (fresh_back e2 hd)
  have hzt : SqT K H3 z (zv (c + 1) fun _ _ => Zm.nil) := st_of (e3 z _ hz)
  refine q_forR1 (ea_cons (ev_var rfl) ea_nil) hn (fun a σ H' => ∃ (y5 y6 y7 y8 y9 y10 y11 y12 y13 y14 y15 y16 y17 y18 y19 y20 y21 y22 y23 y24 y25 : Option V), σ = [some (.ref p), some (.int (c : Int)), some (.int ((c + 1 : Nat) : Int)), some (.ref z), some (.ref d), y5, y6, y7, y8, y9, y10, y11, y12, y13, y14, y15, y16, y17, y18, y19, y20, y21, y22, y23, y24, y25] ∧ SqM K H' d (c + 1) (a * (c + 1)) (fun _ _ => Zm.nil) ∧ Eb p H H' ∧ PotIn 1 H' p ∧ SqT K H' z (zv (c + 1) fun _ _ => Zm.nil))
    (fun H4 e4 => ⟨none, none, none, none, none, none, none, none, none, none, none, none, none, none, none, none, none, none, none, none, none, rfl, by rw [Nat.zero_mul]; exact h3d.ex e4, e03.trans (Eb.of e4), hP3.ex e4, ex_t e4 hzt⟩) (fun a σ H4 ha hPv => ?_) (fun σ H4 hPv => ?_)
  · obtain ⟨y5, y6, y7, y8, y9, y10, y11, y12, y13, y14, y15, y16, y17, y18, y19, y20, y21, y22, y23, y24, y25, rfl, h4d, e4, hP4, h4z⟩ := hPv
    have ha : a < c + 1 := by omega
    refine s_updRow (K := K) (a := a) (fun _ => ev_var rfl) (fun _ => ea_cons (ev_var rfl) ea_nil) (by omega) h4 (by omega) h4d (fun _ _ => ev_var rfl) (fun _ _ => ev_var rfl) (fun _ => rfl) fun H5 e5 h5d => ?_
    exact ⟨_, _, _, _, _, _, _, _, _, _, _, _, _, _, _, _, _, _, _, _, _, rfl, h5d, eb_comb e4 e5 hd0, pot_eb hP4 e5 hpd, sqm_t h4d e5 h4z⟩
  obtain ⟨y5, y6, y7, y8, y9, y10, y11, y12, y13, y14, y15, y16, y17, y18, y19, y20, y21, y22, y23, y24, y25, rfl, h4d, e4, hP4, h4z⟩ := hPv
  have h4d : SqD K H4 d (c + 1) (fun _ _ => Zm.nil) := h4d
  clear h3d hzt hz
  refine q_when (b := false) (et_is (et_test (ev_neTU (ev_var rfl) (eu_call (ea_cons (ev_var rfl) (ea_cons (ev_var rfl) ea_nil)) (su_told h4d (by omega) h4)) h4z)) (by simp)) (fun hb => by cases hb) fun _ H5 e5 => ?_
  refine q_forRP (k := 14) (ep_add1 (ep_take (u := 14) (fun _ => ev_var rfl) (fun _ => ev_c) (by decide) (by decide) (by decide))) (by decide) (hP4.ex e5)
    (fun i σ H' => ∃ (z d : Addr) (S : Sq) (y5 y6 y7 y8 y9 y10 y11 y12 y13 y14 y15 y16 y17 y18 y19 y20 y21 y22 y23 y24 y25 : Option V), σ = [some (.ref p), some (.int (c : Int)), some (.int ((c + 1 : Nat) : Int)), some (.ref z), some (.ref d), y5, y6, y7, y8, y9, y10, y11, y12, y13, y14, y15, y16, y17, y18, y19, y20, y21, y22, y23, y24, y25] ∧ SqT K H' z (zv (c + 1) S) ∧ SqD K H' d (c + 1) S ∧ Zn (c + 1) (12 * (i : Int)) S ∧ Eb p H H' ∧ PotIn (2 + 40 * i) H' p)
    (fun H6 e6 hP6 => ⟨z, d, _, _, _, _, _, _, _, _, _, _, _, _, _, _, _, _, _, _, _, _, _, _, rfl, pot_t (hP4.ex e5) e6 (ex_t e5 h4z), pot_d (hP4.ex e5) e6 (h4d.ex e5), by rw [show (12 : Int) * ((0 : Nat) : Int) = 0 by decide]; exact zn_start (c + 1), (e4.trans (Eb.of e5)).trans e6, hP6⟩) (fun i σ H6 hi hPv => ?_) (fun i σ H6 hi hPv => ?_)
  · clear h4d h4z hP4 e4 e5 hd hd0 hpd e03 hP3 e3 hP2 e2 hP1 e1
    obtain ⟨z, d, S, y5, y6, y7, y8, y9, y10, y11, y12, y13, y14, y15, y16, y17, y18, y19, y20, y21, y22, y23, y24, y25, rfl, h6z, h6d, zS, e6, hP6⟩ := hPv
    refine q_parPV (ep_take (u := 4) (fun _ => ev_var rfl) (fun _ => ev_c) (by omega) (by decide) (by decide)) (fun _ => ev_var rfl) hP6 fun v H7 hv e7 hP7 => ?_
    obtain ⟨way, hway, rfl⟩ := hv
    have h7z := pot_t hP6 e7 h6z
    have h7d := pot_d hP6 e7 h6d
    have e07 := e6.trans e7
    refine q_values (K := K) (c := c) (ea_cons (ev_var rfl) ea_nil) hc3 (by omega) hP7 (fun _ _ => ev_var rfl) (fun _ => rfl) fun va qs H8 _ e8 hP8 h8v hql hqs => ?_
    have h8z := pot_t hP7 e8 h7z
    have h8d := pot_d hP7 e8 h7d
    have e08 := e07.trans e8
    have hfr : ∀ q ∈ qs, FrOk q := fun q hq => (hqs q hq).ok
    have hU : 12 * (i : Int) ≤ 900 := by omega
    have hq1 : qs.length + 1 = c + 1 := by omega
    clear h6z h6d hP6 e6 h7z h7d e07 e7 e8
    refine q_when (b := false) (et_test (ev_reprNe (ev_call (ea_cons (ev_var rfl) (ea_cons (ev_var rfl) ea_nil)) (sv_in h8z zS hU h8v hq1 h2 h4 hfr)) (ev_call (ea_cons (ev_var rfl) (ea_cons (ev_var rfl) (ea_cons (ev_var rfl) ea_nil))) (sv_hold h8d h8v hq1 h4 hfr)) rfl)) (fun hb => by cases hb) fun _ H9 e9 => ?_
    have h9z := ex_t e9 h8z
    have h9d := h8d.ex e9
    have h9v := h8v.ex e9
    have hP9 := hP8.ex e9
    have e09 := e08.trans (Eb.of e9)
    clear h8z h8d h8v e08 e9
    refine q_cut (M := fun σ H' => ∃ (z' d' : Addr) (S' : Sq) (y5 y6 y7 y10 y11 y12 y13 y14 y15 y16 y17 y18 y19 y20 y21 y22 y23 y24 y25 : Option V), σ = [some (.ref p), some (.int (c : Int)), some (.int ((c + 1 : Nat) : Int)), some (.ref z'), some (.ref d'), y5, y6, y7, some (.ref z), some (.ref va), y10, y11, y12, y13, y14, y15, y16, y17, y18, y19, y20, y21, y22, y23, y24, y25] ∧ SqT K H' z' (zv (c + 1) S') ∧ SqD K H' d' (c + 1) S' ∧ Zn (c + 1) (12 * ((i + 1 : Nat) : Int)) S' ∧ SqT K H' z (zv (c + 1) S) ∧ Eb p H H' ∧ PotIn (2 + 40 * i + 30) H' p) ?_ fun σ H10 hM => ?_
    · refine s_if (b := decide (way = 0)) (et_is (et_test (ev_op (ev_var rfl) ev_c (rv_eq rfl))) (by rw [int_eq, decide_eq_decide]; omega)) (fun hb H10 e10 => ?_) fun hb H10 e10 => ?_
      · have h10z := ex_t e10 h9z
        have h10d := h9d.ex e10
        have hP10 := hP9.ex e10
        refine q_parDU (K := K) (ed_call (ea_cons (ev_var rfl) (ea_cons (ev_var rfl) ea_nil)) (sd_later h10d (by omega) h4)) (eu_call (ea_cons (ev_var rfl) ea_nil) (su_later h10z zS hU h2 h4)) fun d' z' H11 e11 h11d h11z => ?_
        refine q_asgC (ea_cons (ev_var rfl) ea_nil) fun H12 e12 => ⟨p, 2 + 40 * i + 1 + 2 * c, rfl, hP10.ex (e11.trans e12), by omega, fun bq ba H13 hbq _ e13 hP13 h13b => ?_⟩
        have hPx := hP10.ex (e11.trans e12)
        have e9x := (e10.trans e11).trans e12
        have hzB := pot_t hPx e13 (ex_t e9x h9z)
        have hv := pot_rT hPx e13 (h9v.ex e9x)
        have hz' : SqT K H13 z' (zv (c + 1) (Zm.lat S)) := pot_t hPx e13 (ex_t e12 (st_of h11z))
        have hd' := pot_d hPx e13 (h11d.ex e12)
        have e013 := e09.trans ((Eb.of e9x).trans e13)
        have zL := zn_lat zS
        refine q_when (b := false) (et_is (et_and (a := holdsB (c + 1) S (ev0 qs)) (b := !holdsB (c + 1) (Zm.lat S) (ev0 (qs.map (plv bq)))) (et_B (ev_call (ea_cons (ev_var rfl) (ea_cons (ev_var rfl) ea_nil)) (sv_in hzB zS hU hv hq1 h2 h4 hfr))) fun _ => et_not (et_B (ev_callRw (ev_var rfl) (er_plus (ev_var rfl) hv hqs (by omega) (st_of h13b) hbq (fun _ _ => ev_var rfl) (fun _ _ => ev_var rfl) (fun _ => rfl)) fun q H14 e14 hq => sv_in (ex_t e14 hz') zL hU hq (by rw [List.length_map]; exact hq1) h2 h4 fun x hx => by
            obtain ⟨y, hy, rfl⟩ := List.mem_map.mp hx
            exact plus_ok (hqs y hy) hbq))) (by
            cases hh : holdsB (c + 1) S (ev0 qs) with
            | false => rfl
            | true =>
              rw [later_law hq1 h4 hqs hbq hh]
              rfl)) (fun hb => by cases hb) fun _ H14 e14 => ?_
        have hz14 := ex_t e14 hz'
        refine s_when (b := false) (et_or (a := false) (b := false) (et_is (et_test (ev_op (ev_call (ea_cons (ev_var rfl) (ea_cons (ev_var rfl) ea_nil)) (sv_within (ex_t e14 hzB) hz14 zS zL hU hU h2 h4)) ev_c rv_notBl)) (by rw [ints_le (fun i j _ _ => lat_le S i j) (Zb.Zn.Bd zS (by omega)) (Zb.Zn.Bd zL (by omega))]; rfl)) fun _ => et_is (et_test (ev_neUT (eu_call (ea_cons (ev_var rfl) ea_nil) (su_later hz14 zL hU h2 h4)) (fun _ => ev_var rfl) hz14)) (by rw [lat_lat]; simp)) (fun hb => by cases hb) fun _ H15 e15 => ?_
        exact ⟨z', d', _, _, _, _, _, _, _, _, _, _, _, _, _, _, _, _, _, _, _, _, rfl, ex_t e15 hz14, hd'.ex (e14.trans e15), zL.mono (by omega), ex_t (e14.trans e15) hzB, e013.trans (Eb.of (e14.trans e15)), (hP13.ex (e14.trans e15)).mono (by omega)⟩
      · refine s_if (b := decide (way < 3)) (et_is (et_test (ev_op (ev_var rfl) ev_c rv_I0)) (by rw [decide_eq_decide]; omega)) (fun hb2 H11 e11 => ?_) fun hb2 H11 e11 => ?_
        · have hP11 := hP9.ex (e10.trans e11)
          refine q_asgC (ea_cons (ev_var rfl) (ea_cons (ev_var rfl) ea_nil)) fun H12 e12 => ⟨p, 2 + 40 * i + 1 + 2 * c, c, rfl, hP11.ex e12, by omega, hc1, hc3, fun ga gs H13 hok hgl _ e13 hP13 h13g => ?_⟩
          have hPx := hP11.ex e12
          have e9x := (e10.trans e11).trans e12
          have hzB := pot_t hPx e13 (ex_t e9x h9z)
          have hdB := pot_d hPx e13 (h9d.ex e9x)
          have hv := pot_rT hPx e13 (h9v.ex e9x)
          have e013 := e09.trans ((Eb.of e9x).trans e13)
          have hU0 : 0 ≤ 12 * (i : Int) := by omega
          have hgok : ∀ e ∈ gs.map Zm.Gi.edge, EdgeOk (c + 1) e := fun e he => by
            obtain ⟨g, hg, rfl⟩ := List.mem_map.mp he
            exact (hok g hg).edge
          have hgij : ∀ e ∈ gs.map Zm.Gi.edge, e.i < c + 1 ∧ e.j < c + 1 := fun e he => by
            rcases hgok e he with ⟨q1, q2, q3, _, _⟩ | ⟨q1, q2, q3, _, _⟩ <;> exact ⟨by omega, by omega⟩
          have hrev : ∀ q H1, Ex H13 H1 → RwT K H1 q (gs.map gvs).reverse → RwT K H1 q (gs.reverse.map gvs) := fun q H1 _ h => by
            rw [List.map_reverse]
            exact h
          refine q_parDX (K := K) (edx_call (ea_cons (ev_var rfl) (ea_cons (ev_var rfl) (ea_cons (ev_var rfl) ea_nil))) (sdx_kept hdB h13g hok (by omega) h4 (by omega))) (ex_call (ea_cons (ev_var rfl) (ea_cons (ev_var rfl) ea_nil)) (sx_with hzB h13g hok zS hU0 hU h2 h4 (by omega))) (fun hneg H14 e14 => ?_) fun hneg d' z' H14 e14 h14d h14z => ?_
          · have hX := ex_callRv (K := K) (σ := [some (.ref p), some (.int (c : Int)), some (.int ((c + 1 : Nat) : Int)), some (.ref z), some (.ref d), y5, some (.int (i : Int)), some (.int (way : Int)), some (.ref z), some (.ref va), y10, some (.ref ga), some .non, some .non, y14, y15, y16, y17, y18, y19, y20, y21, y22, y23, y24, y25]) (sp := spWith K) (E := E0) (b := true) (xs := zv (c + 1) (fw (c + 1) (gall S (gs.map Zm.Gi.edge)))) (ta := tVar 3) (tb := tVar 11) (x := .ref z) (ev_var rfl) (ev_var rfl) (h13g.ex e14) fun q H15 e15 hq => by
              have e := sx_with (K := K) (ex_t (e14.trans e15) hzB) (hrev q H15 (e14.trans e15) hq) (fun g hg => hok g (List.mem_reverse.mp hg)) zS hU0 hU h2 h4 (by rw [List.length_reverse]; omega)
              rw [gall_rev, hneg] at e
              exact e
            refine q_when (b := false) (et_or (a := false) (b := false) (et_is (et_test (ev_op (ev_op (ev_var rfl) ev_c rv_isN) (ev_op (ev_var rfl) ev_c rv_isN) (rv_ne rfl))) (by rfl)) fun _ => et_test (ev_neX0 hX fun _ => ev_var rfl)) (fun hb => by cases hb) fun _ H15 e15 => ?_
            refine s_when (b := false) (et_is (et_test (ev_op (ev_var rfl) ev_c rv_notN)) rfl) (fun hb => by cases hb) fun _ H16 e16 => ?_
            have e3 := (e14.trans e15).trans e16
            exact ⟨z, d, S, _, _, _, _, _, _, _, _, _, _, _, _, _, _, _, _, _, _, _, rfl, ex_t e3 hzB, hdB.ex e3, zS.mono (by omega), ex_t e3 hzB, e013.trans (Eb.of e3), (hP13.ex e3).mono (by omega)⟩
          · generalize hG : fw (c + 1) (gall S (gs.map Zm.Gi.edge)) = G at hneg h14d h14z
            have zG : Zn (c + 1) (12 * ((i + 1 : Nat) : Int)) G := by
              rw [← hG]
              refine (Zm.zn_guard zS (by omega) hU0 hgok ?_).mono (by omega)
              rw [hG]
              exact Zm.neg_iff.mp hneg
            have hU' : 12 * ((i + 1 : Nat) : Int) ≤ 900 := by omega
            have hagain : fw (c + 1) (gall G (gs.map Zm.Gi.edge)) = G := by
              rw [← hG]
              refine again ?_
              rw [hG]
              exact Zm.neg_iff.mp hneg
            have hX := ex_callRv (K := K) (σ := [some (.ref p), some (.int (c : Int)), some (.int ((c + 1 : Nat) : Int)), some (.ref z), some (.ref d), y5, some (.int (i : Int)), some (.int (way : Int)), some (.ref z), some (.ref va), y10, some (.ref ga), some (.ref d'), some (.ref z'), y14, y15, y16, y17, y18, y19, y20, y21, y22, y23, y24, y25]) (sp := spWith K) (E := E0) (b := false) (xs := zv (c + 1) G) (ta := tVar 3) (tb := tVar 11) (x := .ref z) (ev_var rfl) (ev_var rfl) (h13g.ex e14) fun q H15 e15 hq => by
              have e := sx_with (K := K) (ex_t (e14.trans e15) hzB) (hrev q H15 (e14.trans e15) hq) (fun g hg => hok g (List.mem_reverse.mp hg)) zS hU0 hU h2 h4 (by rw [List.length_reverse]; omega)
              rw [gall_rev, hG, hneg] at e
              exact e
            refine q_when (b := false) (et_or (a := false) (b := false) (et_is (et_test (ev_op (ev_op (ev_var rfl) ev_c rv_isN) (ev_op (ev_var rfl) ev_c rv_isN) (rv_ne rfl))) (by rfl)) fun _ => et_is (et_test (ev_neX1 hX (fun _ => ev_var rfl) (st_of h14z))) (by simp)) (fun hb => by cases hb) fun _ H15 e15 => ?_
            refine s_when (b := true) (et_is (et_test (ev_op (ev_var rfl) ev_c rv_notN)) rfl) (fun _ H16 e16 => ?_) fun hb => by cases hb
            have e3 := (e14.trans e15).trans e16
            refine q_asgVD (K := K) (edx_callD (ed_call (ea_cons (ev_var rfl) ea_nil) (sd_free (by omega) h4)) (ev_var rfl) (ev_var rfl) fun q H17 e17 hq => sdx_kept hq (h13g.ex (e3.trans e17)) hok (by omega) h4 (by omega)) fun va2 H17 e17 hVD => ?_
            have e4 := e3.trans e17
            refine q_asg (v := .bl (!neg (c + 1) (fw (c + 1) (gall freeS (gs.map Zm.Gi.edge))) && holdsB (c + 1) (fw (c + 1) (gall freeS (gs.map Zm.Gi.edge))) (ev0 qs))) ?_ fun H18 e18 => ?_
            · rcases hVD with ⟨hb, rfl⟩ | ⟨hb, pa, rfl, hpa⟩
              · rw [hb]
                exact ev_andV (a := false) (ev_op (ev_var rfl) ev_c rv_notN) fun hb => by cases hb
              · rw [hb]
                exact ev_andV (a := true) (ev_op (ev_var rfl) ev_c rv_notN) fun _ => ev_call (ea_cons (ev_var rfl) (ea_cons (ev_var rfl) (ea_cons (ev_var rfl) ea_nil))) (sv_hold hpa (hv.ex e4) hq1 h4 hfr)
            · have e5 := e4.trans e18
              have e1418 := ((e15.trans e16).trans e17).trans e18
              refine q_when (b := false) (et_test (ev_reprNe (ev_call (ea_cons (ev_var rfl) (ea_cons (ev_var rfl) ea_nil)) (sv_in (ex_t e1418 (st_of h14z)) zG hU' (hv.ex e5) hq1 h2 h4 hfr)) (ev_andV (ev_call (ea_cons (ev_var rfl) (ea_cons (ev_var rfl) ea_nil)) (sv_in (ex_t e5 hzB) zS hU (hv.ex e5) hq1 h2 h4 hfr)) fun _ => ev_var rfl) (by
                rw [← hG]
                exact guard_law (rep_of h4 (fr_all hfr)) (wOf_zero qs) (wOf_nonneg h4 hfr) hgij))) (fun hb => by cases hb) fun _ H19 e19 => ?_
              refine q_par (ev_var rfl) (ev_var rfl) fun H20 e20 => ?_
              have e6 := (e5.trans e19).trans e20
              have e1420 := (e1418.trans e19).trans e20
              have hz20 : SqT K H20 z' (zv (c + 1) G) := ex_t e1420 (st_of h14z)
              have hd20 := h14d.ex e1420
              have hle : ∀ i j, i < c + 1 → j < c + 1 → Zm.le (G i j) (S i j) := fun i j _ _ => by
                rw [← hG]
                exact Zm.le_trans (Zm.fw_le _ _ i j) (Zm.gall_le _ _ i j)
              have hX2 := ex_call (sp := spWith K) (E := E0) (dvs := []) (σ := [some (.ref p), some (.int (c : Int)), some (.int ((c + 1 : Nat) : Int)), some (.ref z'), some (.ref d'), y5, some (.int (i : Int)), some (.int (way : Int)), some (.ref z), some (.ref va), y10, some (.ref ga), some (.ref d'), some (.ref z'), some va2, some (.bl (!neg (c + 1) (fw (c + 1) (gall freeS (gs.map Zm.Gi.edge))) && holdsB (c + 1) (fw (c + 1) (gall freeS (gs.map Zm.Gi.edge))) (ev0 qs))), y16, y17, y18, y19, y20, y21, y22, y23, y24, y25]) (ta := tCons (tVar 3) (tCons (tVar 11) tNil)) (ea_cons (ev_var rfl) (ea_cons (ev_var rfl) ea_nil)) (sx_with (K := K) hz20 (h13g.ex e6) hok zG (by omega) hU' h2 h4 (by omega))
              rw [hagain, hneg] at hX2
              refine s_when (b := false) (et_or (a := false) (b := false) (et_is (et_test (ev_op (ev_call (ea_cons (ev_var rfl) (ea_cons (ev_var rfl) ea_nil)) (sv_within hz20 (ex_t e6 hzB) zG zS hU' hU h2 h4)) ev_c rv_notBl)) (by rw [ints_le hle (Zb.Zn.Bd zG (by omega)) (Zb.Zn.Bd zS (by omega))]; rfl)) fun _ => et_is (et_test (ev_neX1 hX2 (fun _ => ev_var rfl) hz20)) (by simp)) (fun hb => by cases hb) fun _ H21 e21 => ?_
              exact ⟨z', d', G, _, _, _, _, _, _, _, _, _, _, _, _, _, _, _, _, _, _, _, rfl, ex_t e21 hz20, hd20.ex e21, zG, ex_t (e6.trans e21) hzB, e013.trans (Eb.of (e6.trans e21)), (hP13.ex (e6.trans e21)).mono (by omega)⟩
        · have hP11 := hP9.ex (e10.trans e11)
          refine q_places (K := K) (u := 4) (c := c) hP11 (by omega) (by decide) (by decide) hc1 hc3 (fun _ => ev_var rfl) (fun _ => ev_c) (fun _ _ => ev_var rfl) (fun _ _ => ev_var rfl) (fun _ => rfl) fun pa ps H12 _ e12 hP12 h12p hpl hps => ?_
          have e9x := e10.trans e11
          have hzB := pot_t hP11 e12 (ex_t e9x h9z)
          have hdB := pot_d hP11 e12 (h9d.ex e9x)
          have hv := pot_rT hP11 e12 (h9v.ex e9x)
          have e012 := e09.trans ((Eb.of e9x).trans e12)
          have hpt : SqT K H12 pa (ps.map fun i : Nat => V.int ((i : Nat) : Int)) := st_of h12p
          have hps1 : ∀ q ∈ ps, q + 1 < c + 1 := fun q hq => by
            have := hps q hq
            omega
          refine q_parDU (K := K) (ed_call (ea_cons (ev_var rfl) (ea_cons (ev_var rfl) (ea_cons (ev_var rfl) ea_nil))) (sd_back hdB hpt hps1 (by omega) h4)) (eu_call (ea_cons (ev_var rfl) (ea_cons (ev_var rfl) ea_nil)) (su_set hzB hpt hps1 zS hU h2 h4 (by omega))) fun d' z' H13 e13 h13d h13z => ?_
          have zB := zn_sbAll (n := c + 1) (by omega) ps zS hps1
          refine q_asg (ev_var rfl) fun H14 e14 => ?_
          refine q_forT (ev_var rfl) (ex_t (e13.trans e14) hpt) (fun m σ H' => ∃ (hh : Addr) (y18 : Option V), σ = [some (.ref p), some (.int (c : Int)), some (.int ((c + 1 : Nat) : Int)), some (.ref z'), some (.ref d'), y5, some (.int (i : Int)), some (.int (way : Int)), some (.ref z), some (.ref va), y10, y11, y12, y13, y14, y15, some (.ref pa), some (.ref hh), y18, y19, y20, y21, y22, y23, y24, y25] ∧ Ex H14 H' ∧ SqT K H' hh (zv (c + 1) (Zm.sbAll S (ps.take m)))) (fun H15 e15 => ⟨z, y18, rfl, e15, ex_t ((e13.trans e14).trans e15) hzB⟩) (fun m σ H15 _ hPv => ?_) (fun m x σ H15 hx hPv => ?_) (fun σ H15 hPv => ?_)
          · obtain ⟨_, _, _, e15, _⟩ := hPv
            exact ex_t ((e13.trans e14).trans e15) hpt
          · obtain ⟨hh, y18, rfl, e15, hht⟩ := hPv
            rw [List.getElem?_map] at hx
            obtain ⟨q, hq, rfl⟩ := Option.map_eq_some_iff.mp hx
            have hqn : q + 1 < c + 1 := hps1 q (List.mem_of_getElem? hq)
            have zM := zn_sbAll (n := c + 1) (by omega) (ps.take m) zS fun q hq => hps1 q (List.mem_of_mem_take hq)
            refine s_asgU (eu_callU (xs := [.int (q : Int)]) (ev_var rfl) (eu_tup (ea_cons (ev_var rfl) ea_nil) (by show 1 ≤ 100000; decide)) fun q1 H16 e16 hq1 => su_set (K := K) (ps := [q]) (ex_t e16 hht) (st_of hq1) (fun x hx => by rw [List.mem_singleton.mp hx]; exact hqn) zM hU h2 h4 (by show 1 ≤ 1000; decide)) fun r H16 _ e16 h16 => ⟨r, some (.int (q : Int)), rfl, e15.trans e16, ?_⟩
            have e : Zm.sbAll S (ps.take (m + 1)) = Zm.sbAll (Zm.sbAll S (ps.take m)) [q] := by
              unfold Zm.sbAll
              rw [List.take_add_one, hq, List.foldl_append]
              rfl
            rw [e]
            exact st_of h16
          · obtain ⟨hh, y18, rfl, e15, hht⟩ := hPv
            rw [List.length_map, List.take_length] at hht
            have eA := (e13.trans e14).trans e15
            have hz15 : SqT K H15 z' (zv (c + 1) (Zm.sbAll S ps)) := ex_t (e14.trans e15) (st_of h13z)
            refine q_asgRw (K := K) (er_back (ev_var rfl) (hv.ex eA) (by omega) (ex_t eA hpt) (fun _ _ _ => ev_var rfl) (fun _ _ _ => ev_var rfl) (fun _ _ _ => ev_var rfl) (fun _ _ => rfl)) fun bk H16 e16 hbk => ?_
            have eB := eA.trans e16
            have hz16 := ex_t e16 hz15
            have hbkok : ∀ q ∈ bkv ps qs, FrOk q := fun q hq => by
              obtain ⟨i, hi, rfl⟩ := List.mem_map.mp hq
              split
              · exact ⟨by decide, by decide, by decide, by decide, by decide⟩
              · rw [List.getD_eq_getElem?_getD, List.getElem?_eq_getElem (List.mem_range.mp hi)]
                exact hfr _ (List.getElem_mem (List.mem_range.mp hi))
            have hbkl : (bkv ps qs).length + 1 = c + 1 := by
              unfold bkv
              rw [List.length_map, List.length_range]
              exact hq1
            refine s_when (b := false) (et_or (a := false) (b := false) (et_is (et_test (ev_neTT (ev_var rfl) (ev_var rfl) (ex_t e16 hht) hz16)) (by simp)) fun _ => et_is (et_and (a := holdsB (c + 1) S (ev0 qs)) (b := !holdsB (c + 1) (Zm.sbAll S ps) (ev0 (bkv ps qs))) (et_B (ev_call (ea_cons (ev_var rfl) (ea_cons (ev_var rfl) ea_nil)) (sv_in (ex_t eB hzB) zS hU (hv.ex eB) hq1 h2 h4 hfr))) fun _ => et_not (et_B (ev_call (ea_cons (ev_var rfl) (ea_cons (ev_var rfl) ea_nil)) (sv_in hz16 zB hU hbk hbkl h2 h4 hbkok)))) (by
                cases hhh : holdsB (c + 1) S (ev0 qs) with
                | false => rfl
                | true =>
                  rw [back_law hq1 h4 hfr hhh]
                  rfl)) (fun hb => by cases hb) fun _ H17 e17 => ?_
            have eC := eB.trans e17
            exact ⟨z', d', _, _, _, _, _, _, _, _, _, _, _, _, _, _, _, _, _, _, _, _, rfl, ex_t e17 hz16, h13d.ex (((e14.trans e15).trans e16).trans e17), zB.mono (by omega), ex_t eC hzB, e012.trans (Eb.of eC), (hP12.ex eC).mono (by omega)⟩
    · obtain ⟨z', d', S', y5, y6, y7, y10, y11, y12, y13, y14, y15, y16, y17, y18, y19, y20, y21, y22, y23, y24, y25, rfl, hz', hd', zS', hzB, eM, hPM⟩ := hM
      have hU' : 12 * ((i + 1 : Nat) : Int) ≤ 900 := by omega
      clear h9z h9d h9v hP9 e09
      refine q_when (b := false) (et_or (a := false) (b := false) (et_is (et_test (ev_neTU (ev_var rfl) (eu_call (ea_cons (ev_var rfl) (ea_cons (ev_var rfl) ea_nil)) (su_told hd' (by omega) h4)) hz')) (by simp)) fun _ => et_is (et_test (ev_op (ev_call (ea_cons (ev_var rfl) ea_nil) (sv_zone hz' h2 h4 (Zb.Zn.Bd zS' (by omega)))) ev_c rv_notBl)) (by rw [zoneB_zn zS' (by omega) (by omega)]; rfl)) (fun hb => by cases hb) fun _ H11 e11 => ?_
      have hnn : (c + 1) * (c + 1) ≤ 4 * 4 := Nat.mul_le_mul h4 h4
      have hnn1 : 1 ≤ (c + 1) * (c + 1) := Nat.mul_pos (by omega) (by omega)
      have mulnn : CMul ((c + 1 : Nat) : Int) ((c + 1 : Nat) : Int) := .inl ⟨by omega, by omega⟩
      refine q_asgP (ep_take (u := (c + 1) * (c + 1)) (fun _ => ev_var rfl) (fun _ => ev_is (ev_op (ev_var rfl) (ev_var rfl) (rv_I mulnn)) (by simp)) (by omega) hnn1 (by omega)) (hPM.ex e11) fun v H12 hv e12 hP12 => ?_
      obtain ⟨m, hm, rfl⟩ := hv
      have hz12 := pot_t (hPM.ex e11) e12 (ex_t e11 hz')
      have hd12 := pot_d (hPM.ex e11) e12 (hd'.ex e11)
      have hzB12 := pot_t (hPM.ex e11) e12 (ex_t e11 hzB)
      have e012 := eM.trans ((Eb.of e11).trans e12)
      have hxm := Zm.zl_at (n := c + 1) (S := S') hm
      refine q_bent (K := K) (xs := zl (c + 1) S') (m := m) (fun _ => ev_var rfl) (fun _ => ev_var rfl) (fun _ => ev_var rfl) (fun _ => ev_var rfl) (fun _ => ev_var rfl) (fun _ => ev_is (ev_op (ev_var rfl) ev_c rv_I0) (by simp)) (ep_of (K := K) (xs := [.int 1, .int (-1)]) (fun _ => ev_var rfl) (fun _ => el_lst (ea_cons ev_c (ea_cons (ev_un ev_c ru_neg) ea_nil)) (by show 2 ≤ 100000; decide)) (by omega) (by decide) (by decide)) hP12 hz12 hxm (by rw [Zm.zl_len]; omega) fun b dd H13 hdd e13 hP13 hb13 => ?_
      have hz13 := pot_t hP12 e13 hz12
      have hd13 := pot_d hP12 e13 hd12
      have hzB13 := pot_t hP12 e13 hzB12
      have e013 := e012.trans e13
      have hmi := Zm.div_lt_of hm
      have hmj := Zm.mod_lt_of hm
      refine q_when (b := false) (et_is (et_and (a := !decide (enc (S' (m / (c + 1)) (m % (c + 1))) = 1000000)) (b := false) (et_is (et_test (ev_op (ev_ixVT (ev_var rfl) (ev_var rfl) hz13 (at_of (j := m) rfl (by rw [List.getElem?_map, hxm]; rfl))) ev_c (rv_ne rfl))) (by rw [int_eq])) fun ha => ?_) (by simp)) (fun hb => by cases hb) fun _ H14 e14 => ?_
      · have hne : enc (S' (m / (c + 1)) (m % (c + 1))) ≠ 1000000 := by simpa using ha
        have hbent := bent_is (n := c + 1) (S := S') (d := dd) hm hb13
        have hBd := bent_bd (n := c + 1) (S := S') (d := dd) (m := m) (Zb.Zn.Bd (c := 900) zS' (by omega)) hmi hmj hne hdd
        exact et_test (ev_reprNe (ev_call (ea_cons (ev_var rfl) ea_nil) (sv_zone hbent h2 h4 hBd)) (ev_call (ea_cons (ev_var rfl) (ea_cons (ev_var rfl) ea_nil)) (sv_lzone hbent (fun i j hi hj => Zm.cl_small (c := 1000) (by decide) fun x hx => (hBd i j hi hj x hx).2) (by omega) h4)) (zone_law hBd h4 (by omega)))
      · have hz14 := ex_t e14 hz13
        have hd14 := hd13.ex e14
        have hzB14 := ex_t e14 hzB13
        refine s_when (b := false) (et_test (ev_reprNe (ev_call (ea_cons (ev_var rfl) (ea_cons (ev_var rfl) ea_nil)) (sv_within hz14 hzB14 zS' zS hU' hU h2 h4)) (ev_allLe (ev_var rfl) (ev_var rfl) hz14 hzB14 (by rw [Zm.zl_len, Zm.zl_len]) (by rw [Zm.zl_len]; omega) (fun _ _ _ => ev_var rfl) (fun _ _ _ => ev_var rfl) (fun _ _ => rfl)) rfl)) (fun hb => by cases hb) fun _ H15 e15 => ?_
        exact ⟨z', d', S', _, _, _, _, _, _, _, _, _, _, _, _, _, _, _, _, _, _, _, _, _, rfl, ex_t e15 hz14, hd14.ex e15, zS', e013.trans (Eb.of (e14.trans e15)), (hP13.ex (e14.trans e15)).mono (by omega)⟩
  · obtain ⟨z, d, S, y5, y6, y7, y8, y9, y10, y11, y12, y13, y14, y15, y16, y17, y18, y19, y20, y21, y22, y23, y24, y25, rfl, h6z, h6d, zS, e6, hP6⟩ := hPv
    exact s_ret ev_c fun H7 e7 => k H7 (e6.trans (Eb.of e7))
end
end Zb
set_option Elab.async false
set_option linter.all false
set_option maxRecDepth 100000
set_option maxHeartbeats 4000000
namespace Zb
open PySem PySem.Spec PyProof.Rows L2 L2.DX Zg Evl
open StX (pa_star tStar)
open RZ (pi_zipA iZipA ItzT)
open Zm (sumE Sq B zl enc dec fw neg Up both less at3 mids rows cols Edge gmin gall EdgeOk Zn NonNeg Clo)

section
variable {K : PySem.W.Frag} {σ : L2.St} {H H' : Hp} {ta tb tc td te tv tx : TE} {t u : TT} {x y z v : V} {r : R2} {D : Ends} {tu tw tz : TS}
theorem et_right {s : Addr} {k : Nat} {ns : List Int} {E1 E2 : XK} {ta : TA} (ha : EvA ta σ H [.ref s, .int (k : Int)]) (hs : SqL K H s (ns.map V.int)) (hk : k ≤ 10) : EvT (tB (tCall spRight [] E1 (tCons (tCall (spPot K) [] E2 ta) tNil))) σ H true := fun H1 e Q q =>
  ha H1 e _ fun H2 e2 => ⟨s, k, ns, rfl, ex_l (e.trans e2) hs, hk, fun p H3 hp e3 hP => ⟨p, rfl, hP, fun H4 e4 => ⟨true, rfl, q H4 (e2.trans (Eb.ex e3 hp e4))⟩⟩⟩
end
section
variable {P : Program} {w : World} {K : PySem.W.Frag} {mg : Str → Option Value} {base : Heap} {aU aC : Addr}
def spLaw (K : PySem.W.Frag) : Sp := fun vs H Q _ => ∃ (a : Addr) (ns : List Int), vs = [.ref a] ∧ SqL K H a (ns.map V.int) ∧ ns.length ≤ 63 ∧ ∀ H', Q (.bl true) H'
theorem ok_law {f : Addr} {fd : FuncData} (T : Tx K mg aU aC) (F : Fun K "law" "law" s_law f fd) (c__law_right : Cl P w K mg base 7 "_law_right" spRight) (c__law_pot_of : Cl P w K mg base 1 "_law_pot_of" (spPot K)) : FnOk P w K mg base CX0 8 f fd ["script"] (spLaw K) := by
  refine F.ok sc_law (fun vs H Q E h => by obtain ⟨_, _, rfl, _⟩ := h; rfl) (fun cdv A outer s H vs Q E hr h => ?_)
  obtain ⟨a, ns, rfl, hs, hl, k⟩ := h
  refine ⟨_, (pss_cons (ps_for PassesOwn.never rfl (pi_range1 (by rfl) T.n_range (pa_cons (pe_callB (call_max2 rfl) (by rfl) T.n_max (by decide +kernel) (pa_cons pe_int (pa_cons (pe_callB (call_min2 rfl) (by rfl) T.n_min (by decide +kernel) (pa_cons pe_int (pa_cons (pe_callB (lenK (K := K)) (by rfl) T.n_len PySem.boot_len (pa_cons (pv 0) pa_nil)) pa_nil))) pa_nil))) pa_nil)) (pg_name (i := 1) sc_law.nd rfl (.inl rfl)) (pss_one (ps_if (pt_not (pt_val (pe_cl c__law_right hr (by decide) (by rfl) (pa_cons (pe_cl c__law_pot_of hr (by decide) (by rfl) (pa_cons (pv 0) (pa_cons (pv 1) pa_nil))) pa_nil)))) (pss_one (ps_ret pe_bl)) pss_nil)))
      (pss_one (ps_ret pe_bl))), ?_⟩
  have hm : ∃ m : Nat, m ≤ 2 ∧ (if (if ((ns.map V.int).length : Int) < 2 then ((ns.map V.int).length : Int) else 2) > 1 then (if ((ns.map V.int).length : Int) < 2 then ((ns.map V.int).length : Int) else 2) else 1) = (m : Int) := by
    by_cases h1 : ((ns.map V.int).length : Int) < 2
    · rw [if_pos h1, if_neg (by omega)]
      exact ⟨1, by decide, rfl⟩
    · rw [if_neg h1, if_pos (by decide)]
      exact ⟨2, by decide, rfl⟩
  obtain ⟨m, hm2, hm⟩ := hm
  refine q_forR1 (n := (m : Int)) (ea_cons (ev_is (ev_max2 ev_c (ev_min2 ev_c (ev_len (ev_var rfl) hs))) (congrArg V.int hm)) ea_nil) ⟨by omega, by omega⟩ (fun i σ H' => ∃ y1, σ = [some (.ref a), y1] ∧ Ex H H') (fun H1 e1 => ⟨none, rfl, e1⟩) (fun i σ H1 hi hP => ?_) (fun σ H1 hP => ?_)
  · obtain ⟨y1, rfl, e1⟩ := hP
    refine s_when (b := false) (et_is (et_not (et_right (k := i) (ea_cons (ev_var rfl) (ea_cons (ev_var rfl) ea_nil)) (ex_l e1 hs) (by omega))) rfl) (fun hb => by cases hb) fun _ H2 e2 => ⟨_, rfl, e1.trans e2⟩
  · exact s_ret ev_c fun H2 _ => k H2
/-! ### what the top has written -/
theorem df_mk {X : PySem.W.Frag} {mg : Str → Option Value} {h : Heap} {x : Str} {st : Stmt} {f : Addr} {oc : Value} {od an : Option Addr} {osl : Array (Option Value)} {kV doc pm cdv ct : Value} {ps : List Str} (XI : X.In h) (G : h.Ns mainGlobals mg) (a : PySem.W.nsIn X mainGlobals x = some (some (.ref f)))
    (l : X.lookup f = some ⟨oc, od, .func (PySem.W.fnOf x x (defArgs st) (defBody st) (defScope st) .none kV doc pm an cdv ct), osl⟩) (c : PySem.W.codeIn X cdv x = true) (k : PySem.W.keepIn X (.ref f) = true)
    (hb : ∀ (kV doc pm : Value) (an : Option Addr) (cdv ct : Value) (us : List Value), us.length = ps.length → bindArgs (PySem.W.fnOf x x (defArgs st) (defBody st) (defScope st) .none kV doc pm an cdv ct) ⟨us, []⟩ = pure (ps.zip us)) : Df X mg x st ps := by
  have F := fun_mk (st := st) l c k
  exact ⟨f, _, F, PySem.W.mg_of XI G a, F.binds hb⟩
theorem int_mk {X : PySem.W.Frag} {mg : Str → Option Value} {h : Heap} {x : Str} {i : Int} {t : Addr} (XI : X.In h) (G : h.Ns mainGlobals mg) (a : PySem.W.nsIn X mainGlobals x = some (some (.int i t))) : ∃ t, mg x = some (.int i t) := ⟨t, PySem.W.mg_of XI G a⟩
theorem tup_mk {X : PySem.W.Frag} {p : Addr} {od : Option Addr} {its : Array Value} {n : Nat} {osl : Array (Option Value)} {xs : List V} (l : X.lookup p = some ⟨.type "tuple", od, .seq its n, osl⟩) (hz : its.size ≤ 100) (hv : Vals xs its.toList) (H : Hp) : SqT X H p xs := .inr ⟨_, its, n, l, rfl, rfl, sz_of (by omega), hv⟩
end
end Zb
set_option Elab.async false
set_option linter.all false
set_option maxRecDepth 100000
set_option maxHeartbeats 4000000
namespace Zb
open PySem PySem.Spec PyProof.Rows L2 L2.DX Zg Evl
open StX (pa_star tStar)
open RZ (pi_zipA iZipA ItzT)
open Zm (sumE Sq B zl enc dec fw neg Up both less at3 mids rows cols Edge gmin gall EdgeOk Zn NonNeg Clo)

theorem all_mk {l : PySem.W.OpenLaw} {w : World} {K : PySem.W.Frag} {h : Heap} {mg : Str → Option Value} {fa : Addr} (X : K.In h) (G : h.Ns mainGlobals mg) (hfa : mg "law" = some (.ref fa))
    {f0 : Addr} {od0 an0 : Option Addr} {sl0 : Array (Option Value)} {oc0 kV0 dc0 pm0 cd0 ct0 : Value}
    (a0 : PySem.W.nsIn K mainGlobals "is_integer" = some (some (.ref f0))) (l0 : K.lookup f0 = some ⟨oc0, od0, .func (PySem.W.fnOf "is_integer" "is_integer" (defArgs s_is_integer) (defBody s_is_integer) (defScope s_is_integer) .none kV0 dc0 pm0 an0 cd0 ct0), sl0⟩) (c0 : PySem.W.codeIn K cd0 "is_integer" = true) (k0 : PySem.W.keepIn K (.ref f0) = true)
    {f1 : Addr} {od1 an1 : Option Addr} {sl1 : Array (Option Value)} {oc1 kV1 dc1 pm1 cd1 ct1 : Value}
    (a1 : PySem.W.nsIn K mainGlobals "is_between" = some (some (.ref f1))) (l1 : K.lookup f1 = some ⟨oc1, od1, .func (PySem.W.fnOf "is_between" "is_between" (defArgs s_is_between) (defBody s_is_between) (defScope s_is_between) .none kV1 dc1 pm1 an1 cd1 ct1), sl1⟩) (c1 : PySem.W.codeIn K cd1 "is_between" = true) (k1 : PySem.W.keepIn K (.ref f1) = true)
    {f2 : Addr} {od2 an2 : Option Addr} {sl2 : Array (Option Value)} {oc2 kV2 dc2 pm2 cd2 ct2 : Value}
    (a2 : PySem.W.nsIn K mainGlobals "common" = some (some (.ref f2))) (l2 : K.lookup f2 = some ⟨oc2, od2, .func (PySem.W.fnOf "common" "common" (defArgs s_common) (defBody s_common) (defScope s_common) .none kV2 dc2 pm2 an2 cd2 ct2), sl2⟩) (c2 : PySem.W.codeIn K cd2 "common" = true) (k2 : PySem.W.keepIn K (.ref f2) = true)
    {f3 : Addr} {od3 an3 : Option Addr} {sl3 : Array (Option Value)} {oc3 kV3 dc3 pm3 cd3 ct3 : Value}
    (a3 : PySem.W.nsIn K mainGlobals "bound_of" = some (some (.ref f3))) (l3 : K.lookup f3 = some ⟨oc3, od3, .func (PySem.W.fnOf "bound_of" "bound_of" (defArgs s_bound_of) (defBody s_bound_of) (defScope s_bound_of) .none kV3 dc3 pm3 an3 cd3 ct3), sl3⟩) (c3 : PySem.W.codeIn K cd3 "bound_of" = true) (k3 : PySem.W.keepIn K (.ref f3) = true)
    {f4 : Addr} {od4 an4 : Option Addr} {sl4 : Array (Option Value)} {oc4 kV4 dc4 pm4 cd4 ct4 : Value}
    (a4 : PySem.W.nsIn K mainGlobals "sum_of_bounds" = some (some (.ref f4))) (l4 : K.lookup f4 = some ⟨oc4, od4, .func (PySem.W.fnOf "sum_of_bounds" "sum_of_bounds" (defArgs s_sum_of_bounds) (defBody s_sum_of_bounds) (defScope s_sum_of_bounds) .none kV4 dc4 pm4 an4 cd4 ct4), sl4⟩) (c4 : PySem.W.codeIn K cd4 "sum_of_bounds" = true) (k4 : PySem.W.keepIn K (.ref f4) = true)
    {f5 : Addr} {od5 an5 : Option Addr} {sl5 : Array (Option Value)} {oc5 kV5 dc5 pm5 cd5 ct5 : Value}
    (a5 : PySem.W.nsIn K mainGlobals "side_of" = some (some (.ref f5))) (l5 : K.lookup f5 = some ⟨oc5, od5, .func (PySem.W.fnOf "side_of" "side_of" (defArgs s_side_of) (defBody s_side_of) (defScope s_side_of) .none kV5 dc5 pm5 an5 cd5 ct5), sl5⟩) (c5 : PySem.W.codeIn K cd5 "side_of" = true) (k5 : PySem.W.keepIn K (.ref f5) = true)
    {f6 : Addr} {od6 an6 : Option Addr} {sl6 : Array (Option Value)} {oc6 kV6 dc6 pm6 cd6 ct6 : Value}
    (a6 : PySem.W.nsIn K mainGlobals "tight" = some (some (.ref f6))) (l6 : K.lookup f6 = some ⟨oc6, od6, .func (PySem.W.fnOf "tight" "tight" (defArgs s_tight) (defBody s_tight) (defScope s_tight) .none kV6 dc6 pm6 an6 cd6 ct6), sl6⟩) (c6 : PySem.W.codeIn K cd6 "tight" = true) (k6 : PySem.W.keepIn K (.ref f6) = true)
    {f7 : Addr} {od7 an7 : Option Addr} {sl7 : Array (Option Value)} {oc7 kV7 dc7 pm7 cd7 ct7 : Value}
    (a7 : PySem.W.nsIn K mainGlobals "begin_zone" = some (some (.ref f7))) (l7 : K.lookup f7 = some ⟨oc7, od7, .func (PySem.W.fnOf "begin_zone" "begin_zone" (defArgs s_begin_zone) (defBody s_begin_zone) (defScope s_begin_zone) .none kV7 dc7 pm7 an7 cd7 ct7), sl7⟩) (c7 : PySem.W.codeIn K cd7 "begin_zone" = true) (k7 : PySem.W.keepIn K (.ref f7) = true)
    {f8 : Addr} {od8 an8 : Option Addr} {sl8 : Array (Option Value)} {oc8 kV8 dc8 pm8 cd8 ct8 : Value}
    (a8 : PySem.W.nsIn K mainGlobals "passed" = some (some (.ref f8))) (l8 : K.lookup f8 = some ⟨oc8, od8, .func (PySem.W.fnOf "passed" "passed" (defArgs s_passed) (defBody s_passed) (defScope s_passed) .none kV8 dc8 pm8 an8 cd8 ct8), sl8⟩) (c8 : PySem.W.codeIn K cd8 "passed" = true) (k8 : PySem.W.keepIn K (.ref f8) = true)
    {f9 : Addr} {od9 an9 : Option Addr} {sl9 : Array (Option Value)} {oc9 kV9 dc9 pm9 cd9 ct9 : Value}
    (a9 : PySem.W.nsIn K mainGlobals "set_back" = some (some (.ref f9))) (l9 : K.lookup f9 = some ⟨oc9, od9, .func (PySem.W.fnOf "set_back" "set_back" (defArgs s_set_back) (defBody s_set_back) (defScope s_set_back) .none kV9 dc9 pm9 an9 cd9 ct9), sl9⟩) (c9 : PySem.W.codeIn K cd9 "set_back" = true) (k9 : PySem.W.keepIn K (.ref f9) = true)
    {f10 : Addr} {od10 an10 : Option Addr} {sl10 : Array (Option Value)} {oc10 kV10 dc10 pm10 cd10 ct10 : Value}
    (a10 : PySem.W.nsIn K mainGlobals "lies_within" = some (some (.ref f10))) (l10 : K.lookup f10 = some ⟨oc10, od10, .func (PySem.W.fnOf "lies_within" "lies_within" (defArgs s_lies_within) (defBody s_lies_within) (defScope s_lies_within) .none kV10 dc10 pm10 an10 cd10 ct10), sl10⟩) (c10 : PySem.W.codeIn K cd10 "lies_within" = true) (k10 : PySem.W.keepIn K (.ref f10) = true)
    {f11 : Addr} {od11 an11 : Option Addr} {sl11 : Array (Option Value)} {oc11 kV11 dc11 pm11 cd11 ct11 : Value}
    (a11 : PySem.W.nsIn K mainGlobals "is_fraction" = some (some (.ref f11))) (l11 : K.lookup f11 = some ⟨oc11, od11, .func (PySem.W.fnOf "is_fraction" "is_fraction" (defArgs s_is_fraction) (defBody s_is_fraction) (defScope s_is_fraction) .none kV11 dc11 pm11 an11 cd11 ct11), sl11⟩) (c11 : PySem.W.codeIn K cd11 "is_fraction" = true) (k11 : PySem.W.keepIn K (.ref f11) = true)
    {f12 : Addr} {od12 an12 : Option Addr} {sl12 : Array (Option Value)} {oc12 kV12 dc12 pm12 cd12 ct12 : Value}
    (a12 : PySem.W.nsIn K mainGlobals "guarded" = some (some (.ref f12))) (l12 : K.lookup f12 = some ⟨oc12, od12, .func (PySem.W.fnOf "guarded" "guarded" (defArgs s_guarded) (defBody s_guarded) (defScope s_guarded) .none kV12 dc12 pm12 an12 cd12 ct12), sl12⟩) (c12 : PySem.W.codeIn K cd12 "guarded" = true) (k12 : PySem.W.keepIn K (.ref f12) = true)
    {f13 : Addr} {od13 an13 : Option Addr} {sl13 : Array (Option Value)} {oc13 kV13 dc13 pm13 cd13 ct13 : Value}
    (a13 : PySem.W.nsIn K mainGlobals "is_zone_of" = some (some (.ref f13))) (l13 : K.lookup f13 = some ⟨oc13, od13, .func (PySem.W.fnOf "is_zone_of" "is_zone_of" (defArgs s_is_zone_of) (defBody s_is_zone_of) (defScope s_is_zone_of) .none kV13 dc13 pm13 an13 cd13 ct13), sl13⟩) (c13 : PySem.W.codeIn K cd13 "is_zone_of" = true) (k13 : PySem.W.keepIn K (.ref f13) = true)
    {f14 : Addr} {od14 an14 : Option Addr} {sl14 : Array (Option Value)} {oc14 kV14 dc14 pm14 cd14 ct14 : Value}
    (a14 : PySem.W.nsIn K mainGlobals "is_zone" = some (some (.ref f14))) (l14 : K.lookup f14 = some ⟨oc14, od14, .func (PySem.W.fnOf "is_zone" "is_zone" (defArgs s_is_zone) (defBody s_is_zone) (defScope s_is_zone) .none kV14 dc14 pm14 an14 cd14 ct14), sl14⟩) (c14 : PySem.W.codeIn K cd14 "is_zone" = true) (k14 : PySem.W.keepIn K (.ref f14) = true)
    {f15 : Addr} {od15 an15 : Option Addr} {sl15 : Array (Option Value)} {oc15 kV15 dc15 pm15 cd15 ct15 : Value}
    (a15 : PySem.W.nsIn K mainGlobals "check_zone" = some (some (.ref f15))) (l15 : K.lookup f15 = some ⟨oc15, od15, .func (PySem.W.fnOf "check_zone" "check_zone" (defArgs s_check_zone) (defBody s_check_zone) (defScope s_check_zone) .none kV15 dc15 pm15 an15 cd15 ct15), sl15⟩) (c15 : PySem.W.codeIn K cd15 "check_zone" = true) (k15 : PySem.W.keepIn K (.ref f15) = true)
    {f16 : Addr} {od16 an16 : Option Addr} {sl16 : Array (Option Value)} {oc16 kV16 dc16 pm16 cd16 ct16 : Value}
    (a16 : PySem.W.nsIn K mainGlobals "has_values" = some (some (.ref f16))) (l16 : K.lookup f16 = some ⟨oc16, od16, .func (PySem.W.fnOf "has_values" "has_values" (defArgs s_has_values) (defBody s_has_values) (defScope s_has_values) .none kV16 dc16 pm16 an16 cd16 ct16), sl16⟩) (c16 : PySem.W.codeIn K cd16 "has_values" = true) (k16 : PySem.W.keepIn K (.ref f16) = true)
    {f17 : Addr} {od17 an17 : Option Addr} {sl17 : Array (Option Value)} {oc17 kV17 dc17 pm17 cd17 ct17 : Value}
    (a17 : PySem.W.nsIn K mainGlobals "first_zone" = some (some (.ref f17))) (l17 : K.lookup f17 = some ⟨oc17, od17, .func (PySem.W.fnOf "first_zone" "first_zone" (defArgs s_first_zone) (defBody s_first_zone) (defScope s_first_zone) .none kV17 dc17 pm17 an17 cd17 ct17), sl17⟩) (c17 : PySem.W.codeIn K cd17 "first_zone" = true) (k17 : PySem.W.keepIn K (.ref f17) = true)
    {f18 : Addr} {od18 an18 : Option Addr} {sl18 : Array (Option Value)} {oc18 kV18 dc18 pm18 cd18 ct18 : Value}
    (a18 : PySem.W.nsIn K mainGlobals "later_zone" = some (some (.ref f18))) (l18 : K.lookup f18 = some ⟨oc18, od18, .func (PySem.W.fnOf "later_zone" "later_zone" (defArgs s_later_zone) (defBody s_later_zone) (defScope s_later_zone) .none kV18 dc18 pm18 an18 cd18 ct18), sl18⟩) (c18 : PySem.W.codeIn K cd18 "later_zone" = true) (k18 : PySem.W.keepIn K (.ref f18) = true)
    {f19 : Addr} {od19 an19 : Option Addr} {sl19 : Array (Option Value)} {oc19 kV19 dc19 pm19 cd19 ct19 : Value}
    (a19 : PySem.W.nsIn K mainGlobals "are_bounds" = some (some (.ref f19))) (l19 : K.lookup f19 = some ⟨oc19, od19, .func (PySem.W.fnOf "are_bounds" "are_bounds" (defArgs s_are_bounds) (defBody s_are_bounds) (defScope s_are_bounds) .none kV19 dc19 pm19 an19 cd19 ct19), sl19⟩) (c19 : PySem.W.codeIn K cd19 "are_bounds" = true) (k19 : PySem.W.keepIn K (.ref f19) = true)
    {f20 : Addr} {od20 an20 : Option Addr} {sl20 : Array (Option Value)} {oc20 kV20 dc20 pm20 cd20 ct20 : Value}
    (a20 : PySem.W.nsIn K mainGlobals "zone_with" = some (some (.ref f20))) (l20 : K.lookup f20 = some ⟨oc20, od20, .func (PySem.W.fnOf "zone_with" "zone_with" (defArgs s_zone_with) (defBody s_zone_with) (defScope s_zone_with) .none kV20 dc20 pm20 an20 cd20 ct20), sl20⟩) (c20 : PySem.W.codeIn K cd20 "zone_with" = true) (k20 : PySem.W.keepIn K (.ref f20) = true)
    {f21 : Addr} {od21 an21 : Option Addr} {sl21 : Array (Option Value)} {oc21 kV21 dc21 pm21 cd21 ct21 : Value}
    (a21 : PySem.W.nsIn K mainGlobals "zone_set" = some (some (.ref f21))) (l21 : K.lookup f21 = some ⟨oc21, od21, .func (PySem.W.fnOf "zone_set" "zone_set" (defArgs s_zone_set) (defBody s_zone_set) (defScope s_zone_set) .none kV21 dc21 pm21 an21 cd21 ct21), sl21⟩) (c21 : PySem.W.codeIn K cd21 "zone_set" = true) (k21 : PySem.W.keepIn K (.ref f21) = true)
    {f22 : Addr} {od22 an22 : Option Addr} {sl22 : Array (Option Value)} {oc22 kV22 dc22 pm22 cd22 ct22 : Value}
    (a22 : PySem.W.nsIn K mainGlobals "is_zone_within" = some (some (.ref f22))) (l22 : K.lookup f22 = some ⟨oc22, od22, .func (PySem.W.fnOf "is_zone_within" "is_zone_within" (defArgs s_is_zone_within) (defBody s_is_zone_within) (defScope s_is_zone_within) .none kV22 dc22 pm22 an22 cd22 ct22), sl22⟩) (c22 : PySem.W.codeIn K cd22 "is_zone_within" = true) (k22 : PySem.W.keepIn K (.ref f22) = true)
    {f23 : Addr} {od23 an23 : Option Addr} {sl23 : Array (Option Value)} {oc23 kV23 dc23 pm23 cd23 ct23 : Value}
    (a23 : PySem.W.nsIn K mainGlobals "is_in_zone" = some (some (.ref f23))) (l23 : K.lookup f23 = some ⟨oc23, od23, .func (PySem.W.fnOf "is_in_zone" "is_in_zone" (defArgs s_is_in_zone) (defBody s_is_in_zone) (defScope s_is_in_zone) .none kV23 dc23 pm23 an23 cd23 ct23), sl23⟩) (c23 : PySem.W.codeIn K cd23 "is_in_zone" = true) (k23 : PySem.W.keepIn K (.ref f23) = true)
    {f24 : Addr} {od24 an24 : Option Addr} {sl24 : Array (Option Value)} {oc24 kV24 dc24 pm24 cd24 ct24 : Value}
    (a24 : PySem.W.nsIn K mainGlobals "_law_both" = some (some (.ref f24))) (l24 : K.lookup f24 = some ⟨oc24, od24, .func (PySem.W.fnOf "_law_both" "_law_both" (defArgs s__law_both) (defBody s__law_both) (defScope s__law_both) .none kV24 dc24 pm24 an24 cd24 ct24), sl24⟩) (c24 : PySem.W.codeIn K cd24 "_law_both" = true) (k24 : PySem.W.keepIn K (.ref f24) = true)
    {f25 : Addr} {od25 an25 : Option Addr} {sl25 : Array (Option Value)} {oc25 kV25 dc25 pm25 cd25 ct25 : Value}
    (a25 : PySem.W.nsIn K mainGlobals "_law_is_less" = some (some (.ref f25))) (l25 : K.lookup f25 = some ⟨oc25, od25, .func (PySem.W.fnOf "_law_is_less" "_law_is_less" (defArgs s__law_is_less) (defBody s__law_is_less) (defScope s__law_is_less) .none kV25 dc25 pm25 an25 cd25 ct25), sl25⟩) (c25 : PySem.W.codeIn K cd25 "_law_is_less" = true) (k25 : PySem.W.keepIn K (.ref f25) = true)
    {f26 : Addr} {od26 an26 : Option Addr} {sl26 : Array (Option Value)} {oc26 kV26 dc26 pm26 cd26 ct26 : Value}
    (a26 : PySem.W.nsIn K mainGlobals "_law_tight" = some (some (.ref f26))) (l26 : K.lookup f26 = some ⟨oc26, od26, .func (PySem.W.fnOf "_law_tight" "_law_tight" (defArgs s__law_tight) (defBody s__law_tight) (defScope s__law_tight) .none kV26 dc26 pm26 an26 cd26 ct26), sl26⟩) (c26 : PySem.W.codeIn K cd26 "_law_tight" = true) (k26 : PySem.W.keepIn K (.ref f26) = true)
    {f27 : Addr} {od27 an27 : Option Addr} {sl27 : Array (Option Value)} {oc27 kV27 dc27 pm27 cd27 ct27 : Value}
    (a27 : PySem.W.nsIn K mainGlobals "_law_told" = some (some (.ref f27))) (l27 : K.lookup f27 = some ⟨oc27, od27, .func (PySem.W.fnOf "_law_told" "_law_told" (defArgs s__law_told) (defBody s__law_told) (defScope s__law_told) .none kV27 dc27 pm27 an27 cd27 ct27), sl27⟩) (c27 : PySem.W.codeIn K cd27 "_law_told" = true) (k27 : PySem.W.keepIn K (.ref f27) = true)
    {f28 : Addr} {od28 an28 : Option Addr} {sl28 : Array (Option Value)} {oc28 kV28 dc28 pm28 cd28 ct28 : Value}
    (a28 : PySem.W.nsIn K mainGlobals "_law_square" = some (some (.ref f28))) (l28 : K.lookup f28 = some ⟨oc28, od28, .func (PySem.W.fnOf "_law_square" "_law_square" (defArgs s__law_square) (defBody s__law_square) (defScope s__law_square) .none kV28 dc28 pm28 an28 cd28 ct28), sl28⟩) (c28 : PySem.W.codeIn K cd28 "_law_square" = true) (k28 : PySem.W.keepIn K (.ref f28) = true)
    {f29 : Addr} {od29 an29 : Option Addr} {sl29 : Array (Option Value)} {oc29 kV29 dc29 pm29 cd29 ct29 : Value}
    (a29 : PySem.W.nsIn K mainGlobals "_law_later" = some (some (.ref f29))) (l29 : K.lookup f29 = some ⟨oc29, od29, .func (PySem.W.fnOf "_law_later" "_law_later" (defArgs s__law_later) (defBody s__law_later) (defScope s__law_later) .none kV29 dc29 pm29 an29 cd29 ct29), sl29⟩) (c29 : PySem.W.codeIn K cd29 "_law_later" = true) (k29 : PySem.W.keepIn K (.ref f29) = true)
    {f30 : Addr} {od30 an30 : Option Addr} {sl30 : Array (Option Value)} {oc30 kV30 dc30 pm30 cd30 ct30 : Value}
    (a30 : PySem.W.nsIn K mainGlobals "_law_free" = some (some (.ref f30))) (l30 : K.lookup f30 = some ⟨oc30, od30, .func (PySem.W.fnOf "_law_free" "_law_free" (defArgs s__law_free) (defBody s__law_free) (defScope s__law_free) .none kV30 dc30 pm30 an30 cd30 ct30), sl30⟩) (c30 : PySem.W.codeIn K cd30 "_law_free" = true) (k30 : PySem.W.keepIn K (.ref f30) = true)
    {f31 : Addr} {od31 an31 : Option Addr} {sl31 : Array (Option Value)} {oc31 kV31 dc31 pm31 cd31 ct31 : Value}
    (a31 : PySem.W.nsIn K mainGlobals "_law_kept" = some (some (.ref f31))) (l31 : K.lookup f31 = some ⟨oc31, od31, .func (PySem.W.fnOf "_law_kept" "_law_kept" (defArgs s__law_kept) (defBody s__law_kept) (defScope s__law_kept) .none kV31 dc31 pm31 an31 cd31 ct31), sl31⟩) (c31 : PySem.W.codeIn K cd31 "_law_kept" = true) (k31 : PySem.W.keepIn K (.ref f31) = true)
    {f32 : Addr} {od32 an32 : Option Addr} {sl32 : Array (Option Value)} {oc32 kV32 dc32 pm32 cd32 ct32 : Value}
    (a32 : PySem.W.nsIn K mainGlobals "_law_put_back" = some (some (.ref f32))) (l32 : K.lookup f32 = some ⟨oc32, od32, .func (PySem.W.fnOf "_law_put_back" "_law_put_back" (defArgs s__law_put_back) (defBody s__law_put_back) (defScope s__law_put_back) .none kV32 dc32 pm32 an32 cd32 ct32), sl32⟩) (c32 : PySem.W.codeIn K cd32 "_law_put_back" = true) (k32 : PySem.W.keepIn K (.ref f32) = true)
    {f33 : Addr} {od33 an33 : Option Addr} {sl33 : Array (Option Value)} {oc33 kV33 dc33 pm33 cd33 ct33 : Value}
    (a33 : PySem.W.nsIn K mainGlobals "_law_holds" = some (some (.ref f33))) (l33 : K.lookup f33 = some ⟨oc33, od33, .func (PySem.W.fnOf "_law_holds" "_law_holds" (defArgs s__law_holds) (defBody s__law_holds) (defScope s__law_holds) .none kV33 dc33 pm33 an33 cd33 ct33), sl33⟩) (c33 : PySem.W.codeIn K cd33 "_law_holds" = true) (k33 : PySem.W.keepIn K (.ref f33) = true)
    {f34 : Addr} {od34 an34 : Option Addr} {sl34 : Array (Option Value)} {oc34 kV34 dc34 pm34 cd34 ct34 : Value}
    (a34 : PySem.W.nsIn K mainGlobals "_law_is_zone" = some (some (.ref f34))) (l34 : K.lookup f34 = some ⟨oc34, od34, .func (PySem.W.fnOf "_law_is_zone" "_law_is_zone" (defArgs s__law_is_zone) (defBody s__law_is_zone) (defScope s__law_is_zone) .none kV34 dc34 pm34 an34 cd34 ct34), sl34⟩) (c34 : PySem.W.codeIn K cd34 "_law_is_zone" = true) (k34 : PySem.W.keepIn K (.ref f34) = true)
    {f35 : Addr} {od35 an35 : Option Addr} {sl35 : Array (Option Value)} {oc35 kV35 dc35 pm35 cd35 ct35 : Value}
    (a35 : PySem.W.nsIn K mainGlobals "_law_take" = some (some (.ref f35))) (l35 : K.lookup f35 = some ⟨oc35, od35, .func (PySem.W.fnOf "_law_take" "_law_take" (defArgs s__law_take) (defBody s__law_take) (defScope s__law_take) .none kV35 dc35 pm35 an35 cd35 ct35), sl35⟩) (c35 : PySem.W.codeIn K cd35 "_law_take" = true) (k35 : PySem.W.keepIn K (.ref f35) = true)
    {f36 : Addr} {od36 an36 : Option Addr} {sl36 : Array (Option Value)} {oc36 kV36 dc36 pm36 cd36 ct36 : Value}
    (a36 : PySem.W.nsIn K mainGlobals "_law_of" = some (some (.ref f36))) (l36 : K.lookup f36 = some ⟨oc36, od36, .func (PySem.W.fnOf "_law_of" "_law_of" (defArgs s__law_of) (defBody s__law_of) (defScope s__law_of) .none kV36 dc36 pm36 an36 cd36 ct36), sl36⟩) (c36 : PySem.W.codeIn K cd36 "_law_of" = true) (k36 : PySem.W.keepIn K (.ref f36) = true)
    {f37 : Addr} {od37 an37 : Option Addr} {sl37 : Array (Option Value)} {oc37 kV37 dc37 pm37 cd37 ct37 : Value}
    (a37 : PySem.W.nsIn K mainGlobals "_law_value" = some (some (.ref f37))) (l37 : K.lookup f37 = some ⟨oc37, od37, .func (PySem.W.fnOf "_law_value" "_law_value" (defArgs s__law_value) (defBody s__law_value) (defScope s__law_value) .none kV37 dc37 pm37 an37 cd37 ct37), sl37⟩) (c37 : PySem.W.codeIn K cd37 "_law_value" = true) (k37 : PySem.W.keepIn K (.ref f37) = true)
    {f38 : Addr} {od38 an38 : Option Addr} {sl38 : Array (Option Value)} {oc38 kV38 dc38 pm38 cd38 ct38 : Value}
    (a38 : PySem.W.nsIn K mainGlobals "_law_plus" = some (some (.ref f38))) (l38 : K.lookup f38 = some ⟨oc38, od38, .func (PySem.W.fnOf "_law_plus" "_law_plus" (defArgs s__law_plus) (defBody s__law_plus) (defScope s__law_plus) .none kV38 dc38 pm38 an38 cd38 ct38), sl38⟩) (c38 : PySem.W.codeIn K cd38 "_law_plus" = true) (k38 : PySem.W.keepIn K (.ref f38) = true)
    {f39 : Addr} {od39 an39 : Option Addr} {sl39 : Array (Option Value)} {oc39 kV39 dc39 pm39 cd39 ct39 : Value}
    (a39 : PySem.W.nsIn K mainGlobals "_law_guard" = some (some (.ref f39))) (l39 : K.lookup f39 = some ⟨oc39, od39, .func (PySem.W.fnOf "_law_guard" "_law_guard" (defArgs s__law_guard) (defBody s__law_guard) (defScope s__law_guard) .none kV39 dc39 pm39 an39 cd39 ct39), sl39⟩) (c39 : PySem.W.codeIn K cd39 "_law_guard" = true) (k39 : PySem.W.keepIn K (.ref f39) = true)
    {f40 : Addr} {od40 an40 : Option Addr} {sl40 : Array (Option Value)} {oc40 kV40 dc40 pm40 cd40 ct40 : Value}
    (a40 : PySem.W.nsIn K mainGlobals "_law_pot_of" = some (some (.ref f40))) (l40 : K.lookup f40 = some ⟨oc40, od40, .func (PySem.W.fnOf "_law_pot_of" "_law_pot_of" (defArgs s__law_pot_of) (defBody s__law_pot_of) (defScope s__law_pot_of) .none kV40 dc40 pm40 an40 cd40 ct40), sl40⟩) (c40 : PySem.W.codeIn K cd40 "_law_pot_of" = true) (k40 : PySem.W.keepIn K (.ref f40) = true)
    {f41 : Addr} {od41 an41 : Option Addr} {sl41 : Array (Option Value)} {oc41 kV41 dc41 pm41 cd41 ct41 : Value}
    (a41 : PySem.W.nsIn K mainGlobals "_law_right" = some (some (.ref f41))) (l41 : K.lookup f41 = some ⟨oc41, od41, .func (PySem.W.fnOf "_law_right" "_law_right" (defArgs s__law_right) (defBody s__law_right) (defScope s__law_right) .none kV41 dc41 pm41 an41 cd41 ct41), sl41⟩) (c41 : PySem.W.codeIn K cd41 "_law_right" = true) (k41 : PySem.W.keepIn K (.ref f41) = true)
    {f42 : Addr} {od42 an42 : Option Addr} {sl42 : Array (Option Value)} {oc42 kV42 dc42 pm42 cd42 ct42 : Value}
    (a42 : PySem.W.nsIn K mainGlobals "law" = some (some (.ref f42))) (l42 : K.lookup f42 = some ⟨oc42, od42, .func (PySem.W.fnOf "law" "law" (defArgs s_law) (defBody s_law) (defScope s_law) .none kV42 dc42 pm42 an42 cd42 ct42), sl42⟩) (c42 : PySem.W.codeIn K cd42 "law" = true) (k42 : PySem.W.keepIn K (.ref f42) = true)
    (z_isinstance : PySem.W.nsIn K mainGlobals "isinstance" = some none)
    (z_int : PySem.W.nsIn K mainGlobals "int" = some none)
    (z_bool : PySem.W.nsIn K mainGlobals "bool" = some none)
    (z_str : PySem.W.nsIn K mainGlobals "str" = some none)
    (z_abs : PySem.W.nsIn K mainGlobals "abs" = some none)
    (z_tuple : PySem.W.nsIn K mainGlobals "tuple" = some none)
    (z_len : PySem.W.nsIn K mainGlobals "len" = some none)
    (z_list : PySem.W.nsIn K mainGlobals "list" = some none)
    (z_range : PySem.W.nsIn K mainGlobals "range" = some none)
    (z_min : PySem.W.nsIn K mainGlobals "min" = some none)
    (z_max : PySem.W.nsIn K mainGlobals "max" = some none)
    (z_any : PySem.W.nsIn K mainGlobals "any" = some none)
    (z_all : PySem.W.nsIn K mainGlobals "all" = some none)
    (z_zip : PySem.W.nsIn K mainGlobals "zip" = some none)
    (z_dict : PySem.W.nsIn K mainGlobals "dict" = some none)
    (z_enumerate : PySem.W.nsIn K mainGlobals "enumerate" = some none)
    (z_sum : PySem.W.nsIn K mainGlobals "sum" = some none)
    (z_repr : PySem.W.nsIn K mainGlobals "repr" = some none)
    {t_FAR : Addr} (i_FAR : PySem.W.nsIn K mainGlobals "FAR" = some (some (.int 1000000 t_FAR)))
    {t_MOST_BOUND : Addr} (i_MOST_BOUND : PySem.W.nsIn K mainGlobals "MOST_BOUND" = some (some (.int 200000 t_MOST_BOUND)))
    {t_REACHED : Addr} (i_REACHED : PySem.W.nsIn K mainGlobals "REACHED" = some (some (.int 1 t_REACHED)))
    {t_NOUGHT : Addr} (i_NOUGHT : PySem.W.nsIn K mainGlobals "NOUGHT" = some (some (.int 1 t_NOUGHT)))
    {t_MOST_CLOCKS : Addr} (i_MOST_CLOCKS : PySem.W.nsIn K mainGlobals "MOST_CLOCKS" = some (some (.int 3 t_MOST_CLOCKS)))
    {t_MOST_MOMENT : Addr} (i_MOST_MOMENT : PySem.W.nsIn K mainGlobals "MOST_MOMENT" = some (some (.int 12 t_MOST_MOMENT)))
    {aU aC : Addr} {oU oC : Option Addr} {nU nC : Nat} {sU sC : Array (Option Value)} {u0 u1 u2 u3 u4 u5 : Addr}
    (i_UPPER : PySem.W.nsIn K mainGlobals "UPPER" = some (some (.ref aU))) (l_UPPER : K.lookup aU = some ⟨.type "tuple", oU, .seq #[.str "<" u0, .str "<=" u1] nU, sU⟩)
    (i_COMPARES : PySem.W.nsIn K mainGlobals "COMPARES" = some (some (.ref aC))) (l_COMPARES : K.lookup aC = some ⟨.type "tuple", oC, .seq #[.str "<" u2, .str "<=" u3, .str ">" u4, .str ">=" u5] nC, sC⟩)
    : ∃ fd : FuncData, (∀ (s : Shared) (v : Value), BindsTo s fd ⟨[v], []⟩ [("script", v)]) ∧ ∀ base : Heap, K.In base → base.Ns mainGlobals mg → FnOk l.prog w K mg base CX0 8 fa fd ["script"] (spLaw K) := by
  have e := hfa.symm.trans (PySem.W.mg_of X G a42)
  cases e
  have d0 : Df K mg "is_integer" s_is_integer ["value"] := df_mk X G a0 l0 c0 k0 fun _ _ _ _ _ _ us hl => match us, hl with | [_], _ => rfl
  have d1 : Df K mg "is_between" s_is_between ["value", "low", "high"] := df_mk X G a1 l1 c1 k1 fun _ _ _ _ _ _ us hl => match us, hl with | [_, _, _], _ => rfl
  have d2 : Df K mg "common" s_common ["one", "other"] := df_mk X G a2 l2 c2 k2 fun _ _ _ _ _ _ us hl => match us, hl with | [_, _], _ => rfl
  have d3 : Df K mg "bound_of" s_bound_of ["number", "is_reached"] := df_mk X G a3 l3 c3 k3 fun _ _ _ _ _ _ us hl => match us, hl with | [_, _], _ => rfl
  have d4 : Df K mg "sum_of_bounds" s_sum_of_bounds ["one", "other"] := df_mk X G a4 l4 c4 k4 fun _ _ _ _ _ _ us hl => match us, hl with | [_, _], _ => rfl
  have d5 : Df K mg "side_of" s_side_of ["zone"] := df_mk X G a5 l5 c5 k5 fun _ _ _ _ _ _ us hl => match us, hl with | [_], _ => rfl
  have d6 : Df K mg "tight" s_tight ["bounds", "size"] := df_mk X G a6 l6 c6 k6 fun _ _ _ _ _ _ us hl => match us, hl with | [_, _], _ => rfl
  have d7 : Df K mg "begin_zone" s_begin_zone ["many"] := df_mk X G a7 l7 c7 k7 fun _ _ _ _ _ _ us hl => match us, hl with | [_], _ => rfl
  have d8 : Df K mg "passed" s_passed ["zone"] := df_mk X G a8 l8 c8 k8 fun _ _ _ _ _ _ us hl => match us, hl with | [_], _ => rfl
  have d9 : Df K mg "set_back" s_set_back ["zone", "clocks", "resets"] := df_mk X G a9 l9 c9 k9 fun _ _ _ _ _ _ us hl => match us, hl with | [_, _, _], _ => rfl
  have d10 : Df K mg "lies_within" s_lies_within ["one", "other"] := df_mk X G a10 l10 c10 k10 fun _ _ _ _ _ _ us hl => match us, hl with | [_, _], _ => rfl
  have d11 : Df K mg "is_fraction" s_is_fraction ["value"] := df_mk X G a11 l11 c11 k11 fun _ _ _ _ _ _ us hl => match us, hl with | [_], _ => rfl
  have d12 : Df K mg "guarded" s_guarded ["zone", "clocks", "guard"] := df_mk X G a12 l12 c12 k12 fun _ _ _ _ _ _ us hl => match us, hl with | [_, _, _], _ => rfl
  have d13 : Df K mg "is_zone_of" s_is_zone_of ["many", "value"] := df_mk X G a13 l13 c13 k13 fun _ _ _ _ _ _ us hl => match us, hl with | [_, _], _ => rfl
  have d14 : Df K mg "is_zone" s_is_zone ["value"] := df_mk X G a14 l14 c14 k14 fun _ _ _ _ _ _ us hl => match us, hl with | [_], _ => rfl
  have d15 : Df K mg "check_zone" s_check_zone ["zone"] := df_mk X G a15 l15 c15 k15 fun _ _ _ _ _ _ us hl => match us, hl with | [_], _ => rfl
  have d16 : Df K mg "has_values" s_has_values ["zone", "values"] := df_mk X G a16 l16 c16 k16 fun _ _ _ _ _ _ us hl => match us, hl with | [_, _], _ => rfl
  have d17 : Df K mg "first_zone" s_first_zone ["many"] := df_mk X G a17 l17 c17 k17 fun _ _ _ _ _ _ us hl => match us, hl with | [_], _ => rfl
  have d18 : Df K mg "later_zone" s_later_zone ["zone"] := df_mk X G a18 l18 c18 k18 fun _ _ _ _ _ _ us hl => match us, hl with | [_], _ => rfl
  have d19 : Df K mg "are_bounds" s_are_bounds ["many", "value"] := df_mk X G a19 l19 c19 k19 fun _ _ _ _ _ _ us hl => match us, hl with | [_, _], _ => rfl
  have d20 : Df K mg "zone_with" s_zone_with ["zone", "guard"] := df_mk X G a20 l20 c20 k20 fun _ _ _ _ _ _ us hl => match us, hl with | [_, _], _ => rfl
  have d21 : Df K mg "zone_set" s_zone_set ["zone", "places"] := df_mk X G a21 l21 c21 k21 fun _ _ _ _ _ _ us hl => match us, hl with | [_, _], _ => rfl
  have d22 : Df K mg "is_zone_within" s_is_zone_within ["one", "other"] := df_mk X G a22 l22 c22 k22 fun _ _ _ _ _ _ us hl => match us, hl with | [_, _], _ => rfl
  have d23 : Df K mg "is_in_zone" s_is_in_zone ["zone", "values"] := df_mk X G a23 l23 c23 k23 fun _ _ _ _ _ _ us hl => match us, hl with | [_, _], _ => rfl
  have d24 : Df K mg "_law_both" s__law_both ["one", "other"] := df_mk X G a24 l24 c24 k24 fun _ _ _ _ _ _ us hl => match us, hl with | [_, _], _ => rfl
  have d25 : Df K mg "_law_is_less" s__law_is_less ["one", "other"] := df_mk X G a25 l25 c25 k25 fun _ _ _ _ _ _ us hl => match us, hl with | [_, _], _ => rfl
  have d26 : Df K mg "_law_tight" s__law_tight ["square", "many"] := df_mk X G a26 l26 c26 k26 fun _ _ _ _ _ _ us hl => match us, hl with | [_, _], _ => rfl
  have d27 : Df K mg "_law_told" s__law_told ["square", "many"] := df_mk X G a27 l27 c27 k27 fun _ _ _ _ _ _ us hl => match us, hl with | [_, _], _ => rfl
  have d28 : Df K mg "_law_square" s__law_square ["zone", "many"] := df_mk X G a28 l28 c28 k28 fun _ _ _ _ _ _ us hl => match us, hl with | [_, _], _ => rfl
  have d29 : Df K mg "_law_later" s__law_later ["square", "many"] := df_mk X G a29 l29 c29 k29 fun _ _ _ _ _ _ us hl => match us, hl with | [_, _], _ => rfl
  have d30 : Df K mg "_law_free" s__law_free ["many"] := df_mk X G a30 l30 c30 k30 fun _ _ _ _ _ _ us hl => match us, hl with | [_], _ => rfl
  have d31 : Df K mg "_law_kept" s__law_kept ["square", "many", "guard"] := df_mk X G a31 l31 c31 k31 fun _ _ _ _ _ _ us hl => match us, hl with | [_, _, _], _ => rfl
  have d32 : Df K mg "_law_put_back" s__law_put_back ["square", "many", "places"] := df_mk X G a32 l32 c32 k32 fun _ _ _ _ _ _ us hl => match us, hl with | [_, _, _], _ => rfl
  have d33 : Df K mg "_law_holds" s__law_holds ["square", "many", "values"] := df_mk X G a33 l33 c33 k33 fun _ _ _ _ _ _ us hl => match us, hl with | [_, _, _], _ => rfl
  have d34 : Df K mg "_law_is_zone" s__law_is_zone ["value", "many"] := df_mk X G a34 l34 c34 k34 fun _ _ _ _ _ _ us hl => match us, hl with | [_, _], _ => rfl
  have d35 : Df K mg "_law_take" s__law_take ["pot", "upto"] := df_mk X G a35 l35 c35 k35 fun _ _ _ _ _ _ us hl => match us, hl with | [_, _], _ => rfl
  have d36 : Df K mg "_law_of" s__law_of ["pot", "some"] := df_mk X G a36 l36 c36 k36 fun _ _ _ _ _ _ us hl => match us, hl with | [_, _], _ => rfl
  have d37 : Df K mg "_law_value" s__law_value ["pot"] := df_mk X G a37 l37 c37 k37 fun _ _ _ _ _ _ us hl => match us, hl with | [_], _ => rfl
  have d38 : Df K mg "_law_plus" s__law_plus ["one", "other"] := df_mk X G a38 l38 c38 k38 fun _ _ _ _ _ _ us hl => match us, hl with | [_, _], _ => rfl
  have d39 : Df K mg "_law_guard" s__law_guard ["pot", "clocks"] := df_mk X G a39 l39 c39 k39 fun _ _ _ _ _ _ us hl => match us, hl with | [_, _], _ => rfl
  have d40 : Df K mg "_law_pot_of" s__law_pot_of ["script", "k"] := df_mk X G a40 l40 c40 k40 fun _ _ _ _ _ _ us hl => match us, hl with | [_, _], _ => rfl
  have d41 : Df K mg "_law_right" s__law_right ["pot"] := df_mk X G a41 l41 c41 k41 fun _ _ _ _ _ _ us hl => match us, hl with | [_], _ => rfl
  have FL := fun_mk (st := s_law) l42 c42 k42
  have T : Tx K mg aU aC := ⟨PySem.W.mg_none_of X G z_isinstance, PySem.W.mg_none_of X G z_int, PySem.W.mg_none_of X G z_bool, PySem.W.mg_none_of X G z_str, PySem.W.mg_none_of X G z_abs, PySem.W.mg_none_of X G z_tuple, PySem.W.mg_none_of X G z_len, PySem.W.mg_none_of X G z_list, PySem.W.mg_none_of X G z_range, PySem.W.mg_none_of X G z_min, PySem.W.mg_none_of X G z_max, PySem.W.mg_none_of X G z_any, PySem.W.mg_none_of X G z_all, PySem.W.mg_none_of X G z_zip, PySem.W.mg_none_of X G z_dict, PySem.W.mg_none_of X G z_enumerate, PySem.W.mg_none_of X G z_sum, PySem.W.mg_none_of X G z_repr, int_mk X G i_FAR, int_mk X G i_MOST_BOUND, int_mk X G i_REACHED, int_mk X G i_NOUGHT, int_mk X G i_MOST_CLOCKS, int_mk X G i_MOST_MOMENT, PySem.W.mg_of X G i_UPPER, PySem.W.mg_of X G i_COMPARES, fun H => tup_mk (xs := [.str "<", .str "<="]) l_UPPER (by show 2 ≤ 100; decide) (.cons ⟨_, rfl⟩ (.cons ⟨_, rfl⟩ .nil)) H, fun H => tup_mk (xs := [.str "<", .str "<=", .str ">", .str ">="]) l_COMPARES (by show 4 ≤ 100; decide) (.cons ⟨_, rfl⟩ (.cons ⟨_, rfl⟩ (.cons ⟨_, rfl⟩ (.cons ⟨_, rfl⟩ .nil)))) H⟩
  refine ⟨PySem.W.fnOf "law" "law" (defArgs s_law) (defBody s_law) (defScope s_law) .none kV42 dc42 pm42 an42 cd42 ct42, fun s v => .of_eq rfl, fun base _ _ => ?_⟩
  have q_is_integer := c_is_integer (P := l.prog) (w := w) (base := base) T d0
  have q_is_between := c_is_between (P := l.prog) (w := w) (base := base) T d1 q_is_integer
  have q_common := c_common (P := l.prog) (w := w) (base := base) T d2
  have q_bound_of := c_bound_of (P := l.prog) (w := w) (base := base) T d3
  have q_sum_of_bounds := c_sum_of_bounds (P := l.prog) (w := w) (base := base) T d4
  have q_side_of := c_side_of (P := l.prog) (w := w) (base := base) T d5
  have q_tight := c_tight (P := l.prog) (w := w) (base := base) T d6 q_sum_of_bounds
  have q_begin_zone := c_begin_zone (P := l.prog) (w := w) (base := base) T d7
  have q_passed := c_passed (P := l.prog) (w := w) (base := base) T d8 q_side_of
  have q_set_back := c_set_back (P := l.prog) (w := w) (base := base) T d9 q_side_of
  have q_lies_within := c_lies_within (P := l.prog) (w := w) (base := base) T d10
  have q_is_fraction := c_is_fraction (P := l.prog) (w := w) (base := base) T d11 q_is_integer q_common
  have q_guarded := c_guarded (P := l.prog) (w := w) (base := base) T d12 q_side_of q_bound_of q_tight
  have q_is_zone_of := c_is_zone_of (P := l.prog) (w := w) (base := base) T d13 q_is_integer q_is_between q_tight
  have q_is_zone := c_is_zone (P := l.prog) (w := w) (base := base) T d14 q_is_zone_of
  have q_check_zone := c_check_zone (P := l.prog) (w := w) (base := base) T d15 q_is_zone
  have q_has_values := c_has_values (P := l.prog) (w := w) (base := base) T d16 q_side_of
  have q_first_zone := c_first_zone (P := l.prog) (w := w) (base := base) T d17 q_is_between q_begin_zone
  have q_later_zone := c_later_zone (P := l.prog) (w := w) (base := base) T d18 q_check_zone q_passed
  have q_are_bounds := c_are_bounds (P := l.prog) (w := w) (base := base) T d19 q_is_between
  have q_zone_with := c_zone_with (P := l.prog) (w := w) (base := base) T d20 q_check_zone q_side_of q_are_bounds q_guarded
  have q_zone_set := c_zone_set (P := l.prog) (w := w) (base := base) T d21 q_check_zone q_side_of q_is_between q_set_back
  have q_is_zone_within := c_is_zone_within (P := l.prog) (w := w) (base := base) T d22 q_check_zone q_lies_within
  have q_is_in_zone := c_is_in_zone (P := l.prog) (w := w) (base := base) T d23 q_check_zone q_side_of q_is_fraction q_has_values
  have q__law_both := c__law_both (P := l.prog) (w := w) (base := base) T d24
  have q__law_is_less := c__law_is_less (P := l.prog) (w := w) (base := base) T d25
  have q__law_tight := c__law_tight (P := l.prog) (w := w) (base := base) T d26 q__law_both q__law_is_less
  have q__law_told := c__law_told (P := l.prog) (w := w) (base := base) T d27
  have q__law_square := c__law_square (P := l.prog) (w := w) (base := base) T d28
  have q__law_later := c__law_later (P := l.prog) (w := w) (base := base) T d29
  have q__law_free := c__law_free (P := l.prog) (w := w) (base := base) T d30
  have q__law_kept := c__law_kept (P := l.prog) (w := w) (base := base) T d31 q__law_is_less q__law_tight
  have q__law_put_back := c__law_put_back (P := l.prog) (w := w) (base := base) T d32
  have q__law_holds := c__law_holds (P := l.prog) (w := w) (base := base) T d33
  have q__law_is_zone := c__law_is_zone (P := l.prog) (w := w) (base := base) T d34 q__law_square q__law_is_less q__law_tight
  have q__law_take := c__law_take (P := l.prog) (w := w) (base := base) T d35
  have q__law_of := c__law_of (P := l.prog) (w := w) (base := base) T d36 q__law_take
  have q__law_value := c__law_value (P := l.prog) (w := w) (base := base) T d37 q__law_take q__law_of
  have q__law_plus := c__law_plus (P := l.prog) (w := w) (base := base) T d38
  have q__law_guard := c__law_guard (P := l.prog) (w := w) (base := base) T d39 q__law_take q__law_of
  have q__law_pot_of := c__law_pot_of (P := l.prog) (w := w) (base := base) T d40
  have q__law_right := c__law_right (P := l.prog) (w := w) (base := base) T d41 q__law_take q_first_zone q__law_told q__law_value q_is_in_zone q__law_holds q_later_zone q__law_later q__law_plus q_is_zone_within q__law_guard q_zone_with q__law_kept q__law_free q_zone_set q__law_put_back q_is_zone q__law_of q__law_is_zone
  exact ok_law T FL q__law_right q__law_pot_of
end Zb
set_option Elab.async false
set_option linter.all false
set_option maxRecDepth 100000

open PySem PySem.W PyProof.Rows
set_option maxHeartbeats 0 in
theorem PySem.Challenge.cw_holdsfailsopen_k35_whole_zones_by_least_holds : PySem.Challenge.rw_holdsfailsopen_k35_whole_zones_by_least.Holds := by
  w_on; o_law; k_head; (case hw => w_witness2)
  k_fill
  refine L2.walk_of (l := PySem.Challenge.rw_holdsfailsopen_k35_whole_zones_by_least) (n := 63) (k := 8) (x := "script") (CX := fun _ => L2.CX0) (sp := fun w => Zb.spLaw _) rfl (by decide) rfl ⟨rfl, by decide, by decide⟩ (fun w h Y => PySem.W.kIn_of Y) ?F (fun _ _ a ns hl _ hS => ⟨a, ns, rfl, hS, hl, fun _ => rfl⟩) (fun _ _ _ _ _ h => h)
  case F =>
    intro w mg fa h KX G hmg
    refine' Zb.all_mk KX G hmg ?a0 ?l0 ?c0 ?k0 ?a1 ?l1 ?c1 ?k1 ?a2 ?l2 ?c2 ?k2 ?a3 ?l3 ?c3 ?k3 ?a4 ?l4 ?c4 ?k4 ?a5 ?l5 ?c5 ?k5 ?a6 ?l6 ?c6 ?k6 ?a7 ?l7 ?c7 ?k7 ?a8 ?l8 ?c8 ?k8 ?a9 ?l9 ?c9 ?k9 ?a10 ?l10 ?c10 ?k10 ?a11 ?l11 ?c11 ?k11 ?a12 ?l12 ?c12 ?k12 ?a13 ?l13 ?c13 ?k13 ?a14 ?l14 ?c14 ?k14 ?a15 ?l15 ?c15 ?k15 ?a16 ?l16 ?c16 ?k16 ?a17 ?l17 ?c17 ?k17 ?a18 ?l18 ?c18 ?k18 ?a19 ?l19 ?c19 ?k19 ?a20 ?l20 ?c20 ?k20 ?a21 ?l21 ?c21 ?k21 ?a22 ?l22 ?c22 ?k22 ?a23 ?l23 ?c23 ?k23 ?a24 ?l24 ?c24 ?k24 ?a25 ?l25 ?c25 ?k25 ?a26 ?l26 ?c26 ?k26 ?a27 ?l27 ?c27 ?k27 ?a28 ?l28 ?c28 ?k28 ?a29 ?l29 ?c29 ?k29 ?a30 ?l30 ?c30 ?k30 ?a31 ?l31 ?c31 ?k31 ?a32 ?l32 ?c32 ?k32 ?a33 ?l33 ?c33 ?k33 ?a34 ?l34 ?c34 ?k34 ?a35 ?l35 ?c35 ?k35 ?a36 ?l36 ?c36 ?k36 ?a37 ?l37 ?c37 ?k37 ?a38 ?l38 ?c38 ?k38 ?a39 ?l39 ?c39 ?k39 ?a40 ?l40 ?c40 ?k40 ?a41 ?l41 ?c41 ?k41 ?a42 ?l42 ?c42 ?k42 ?z_isinstance ?z_int ?z_bool ?z_str ?z_abs ?z_tuple ?z_len ?z_list ?z_range ?z_min ?z_max ?z_any ?z_all ?z_zip ?z_dict ?z_enumerate ?z_sum ?z_repr ?i_FAR ?i_MOST_BOUND ?i_REACHED ?i_NOUGHT ?i_MOST_CLOCKS ?i_MOST_MOMENT ?i_UPPER ?l_UPPER ?i_COMPARES ?l_COMPARES
    (case a0 => k_is); (case l0 => k_is); (case c0 => k_is); (case k0 => k_is); (case a1 => k_is); (case l1 => k_is); (case c1 => k_is); (case k1 => k_is)
    (case a2 => k_is); (case l2 => k_is); (case c2 => k_is); (case k2 => k_is); (case a3 => k_is); (case l3 => k_is); (case c3 => k_is); (case k3 => k_is)
    (case a4 => k_is); (case l4 => k_is); (case c4 => k_is); (case k4 => k_is); (case a5 => k_is); (case l5 => k_is); (case c5 => k_is); (case k5 => k_is)
    (case a6 => k_is); (case l6 => k_is); (case c6 => k_is); (case k6 => k_is); (case a7 => k_is); (case l7 => k_is); (case c7 => k_is); (case k7 => k_is)
    (case a8 => k_is); (case l8 => k_is); (case c8 => k_is); (case k8 => k_is); (case a9 => k_is); (case l9 => k_is); (case c9 => k_is); (case k9 => k_is)
    (case a10 => k_is); (case l10 => k_is); (case c10 => k_is); (case k10 => k_is); (case a11 => k_is); (case l11 => k_is); (case c11 => k_is); (case k11 => k_is)
    (case a12 => k_is); (case l12 => k_is); (case c12 => k_is); (case k12 => k_is); (case a13 => k_is); (case l13 => k_is); (case c13 => k_is); (case k13 => k_is)
    (case a14 => k_is); (case l14 => k_is); (case c14 => k_is); (case k14 => k_is); (case a15 => k_is); (case l15 => k_is); (case c15 => k_is); (case k15 => k_is)
    (case a16 => k_is); (case l16 => k_is); (case c16 => k_is); (case k16 => k_is); (case a17 => k_is); (case l17 => k_is); (case c17 => k_is); (case k17 => k_is)
    (case a18 => k_is); (case l18 => k_is); (case c18 => k_is); (case k18 => k_is); (case a19 => k_is); (case l19 => k_is); (case c19 => k_is); (case k19 => k_is)
    (case a20 => k_is); (case l20 => k_is); (case c20 => k_is); (case k20 => k_is); (case a21 => k_is); (case l21 => k_is); (case c21 => k_is); (case k21 => k_is)
    (case a22 => k_is); (case l22 => k_is); (case c22 => k_is); (case k22 => k_is); (case a23 => k_is); (case l23 => k_is); (case c23 => k_is); (case k23 => k_is)
    (case a24 => k_is); (case l24 => k_is); (case c24 => k_is); (case k24 => k_is); (case a25 => k_is); (case l25 => k_is); (case c25 => k_is); (case k25 => k_is)
    (case a26 => k_is); (case l26 => k_is); (case c26 => k_is); (case k26 => k_is); (case a27 => k_is); (case l27 => k_is); (case c27 => k_is); (case k27 => k_is)
    (case a28 => k_is); (case l28 => k_is); (case c28 => k_is); (case k28 => k_is); (case a29 => k_is); (case l29 => k_is); (case c29 => k_is); (case k29 => k_is)
    (case a30 => k_is); (case l30 => k_is); (case c30 => k_is); (case k30 => k_is); (case a31 => k_is); (case l31 => k_is); (case c31 => k_is); (case k31 => k_is)
    (case a32 => k_is); (case l32 => k_is); (case c32 => k_is); (case k32 => k_is); (case a33 => k_is); (case l33 => k_is); (case c33 => k_is); (case k33 => k_is)
    (case a34 => k_is); (case l34 => k_is); (case c34 => k_is); (case k34 => k_is); (case a35 => k_is); (case l35 => k_is); (case c35 => k_is); (case k35 => k_is)
    (case a36 => k_is); (case l36 => k_is); (case c36 => k_is); (case k36 => k_is); (case a37 => k_is); (case l37 => k_is); (case c37 => k_is); (case k37 => k_is)
    (case a38 => k_is); (case l38 => k_is); (case c38 => k_is); (case k38 => k_is); (case a39 => k_is); (case l39 => k_is); (case c39 => k_is); (case k39 => k_is)
    (case a40 => k_is); (case l40 => k_is); (case c40 => k_is); (case k40 => k_is); (case a41 => k_is); (case l41 => k_is); (case c41 => k_is); (case k41 => k_is)
    (case a42 => k_is); (case l42 => k_is); (case c42 => k_is); (case k42 => k_is); (case z_isinstance => k_is); (case z_int => k_is); (case z_bool => k_is); (case z_str => k_is)
    (case z_abs => k_is); (case z_tuple => k_is); (case z_len => k_is); (case z_list => k_is); (case z_range => k_is); (case z_min => k_is); (case z_max => k_is); (case z_any => k_is)
    (case z_all => k_is); (case z_zip => k_is); (case z_dict => k_is); (case z_enumerate => k_is); (case z_sum => k_is); (case z_repr => k_is); (case i_FAR => k_is); (case i_MOST_BOUND => k_is)
    (case i_REACHED => k_is); (case i_NOUGHT => k_is); (case i_MOST_CLOCKS => k_is); (case i_MOST_MOMENT => k_is); (case i_UPPER => k_is); (case l_UPPER => k_is); (case i_COMPARES => k_is); (case l_COMPARES => k_is)
