import PyProof.Rows.All
import Wide.All
import OpenK.AllK
import Wide.FinOn
import HandS.ForMost
import HandS.Evl
import HandS.IsInst
import HandS.Wide
import HandS.Style
import KE.DataFind
import HandS.More
import PySem.Challenge.RW_fairknife_k08_whole_halves
set_option Elab.async false
section
/-! The plain law: a cake's steps, areas, marks, over Rat. -/
namespace Fk
abbrev Steps := List (Rat × Nat)
def cutLow (b s : Rat) : Rat := if b < s then s else b
def cutHigh (l e : Rat) : Rat := if e < l then e else l
/-- what a row [b, l] of weight w is worth between s and e -/
def rowA (s e b l : Rat) (w : Nat) : Rat := if cutLow b s < cutHigh l e then (w : Rat) * (cutHigh l e - cutLow b s) else 0
def areaS : Rat → Steps → Rat → Rat → Rat
  | _, [], _, _ => 0
  | b, (l, w) :: r, s, e => rowA s e b l w + areaS l r s e
def markS : Rat → Steps → Rat → Rat → Option Rat
  | _, [], _, _ => none
  | b, (l, w) :: r, s, left =>
    if s < l then
      if (w : Rat) * (l - cutLow b s) < left then markS l r s (left - (w : Rat) * (l - cutLow b s))
      else some (cutLow b s + left / (w : Rat))
    else markS l r s left
/-- the steps rise from b to 1, each of some weight -/
def Val : Rat → Steps → Prop
  | b, [] => b = 1
  | b, (l, w) :: r => b < l ∧ 1 ≤ w ∧ w ≤ 1000 ∧ Val l r
theorem wpos {w : Nat} (h : 1 ≤ w) : (0 : Rat) < (w : Rat) := Rat.natCast_pos.mpr (by omega)
theorem Val.le : ∀ {T : Steps} {b : Rat}, Val b T → b ≤ 1
  | [], b, h => by
    have h : b = 1 := h
    grind
  | (l, w) :: r, b, ⟨h1, _, _, h3⟩ => by
    have := Val.le h3
    grind
theorem rowA_nonneg (s e b l : Rat) (w : Nat) : 0 ≤ rowA s e b l w := by
  unfold rowA
  split
  · have h1 : (0 : Rat) ≤ (w : Rat) := Rat.natCast_nonneg
    exact Rat.mul_nonneg h1 (by grind)
  · grind
theorem areaS_nonneg : ∀ (T : Steps) (b s e : Rat), 0 ≤ areaS b T s e
  | [], _, _, _ => by show (0 : Rat) ≤ 0; grind
  | (l, w) :: r, b, s, e => Rat.add_nonneg (rowA_nonneg s e b l w) (areaS_nonneg r l s e)
theorem rowA_add (s m e b l : Rat) (w : Nat) (h1 : s ≤ m) (h2 : m ≤ e) : rowA s e b l w = rowA s m b l w + rowA m e b l w := by
  unfold rowA cutLow cutHigh
  grind
theorem areaS_add : ∀ (T : Steps) (b s m e : Rat), s ≤ m → m ≤ e → areaS b T s e = areaS b T s m + areaS b T m e
  | [], _, _, _, _, _, _ => by show (0 : Rat) = 0 + 0; grind
  | (l, w) :: r, b, s, m, e, h1, h2 => by
    have a := rowA_add s m e b l w h1 h2
    have c := areaS_add r l s m e h1 h2
    show rowA s e b l w + areaS l r s e = (rowA s m b l w + areaS l r s m) + (rowA m e b l w + areaS l r m e)
    grind
/-- nothing is worth anything ahead of where the steps begin -/
theorem areaS_ahead : ∀ (T : Steps) (b s e : Rat), Val b T → e ≤ b → areaS b T s e = 0
  | [], _, _, _, _, _ => rfl
  | (l, w) :: r, b, s, e, ⟨h1, _, _, h3⟩, h => by
    have c := areaS_ahead r l s e h3 (by grind)
    have a : rowA s e b l w = 0 := by
      unfold rowA cutLow cutHigh
      grind
    show rowA s e b l w + areaS l r s e = 0
    grind
theorem areaS_pos : ∀ (T : Steps) (b s e : Rat), Val b T → s < e → s < 1 → b < e → b < 1 → 0 < areaS b T s e
  | [], b, _, _, h, _, _, _, h4 => by
    have h : b = 1 := h
    grind
  | (l, w) :: r, b, s, e, ⟨h1, hw, _, h3⟩, hse, hs1, hbe, hb1 => by
    show 0 < rowA s e b l w + areaS l r s e
    have n1 := rowA_nonneg s e b l w
    have n2 := areaS_nonneg r l s e
    by_cases c : cutLow b s < cutHigh l e
    · have p : 0 < rowA s e b l w := by
        unfold rowA
        rw [if_pos c]
        exact Rat.mul_pos (wpos hw) (by grind)
      grind
    · have hsl : l ≤ s := by
        unfold cutLow cutHigh at c
        grind
      have hl1 : l ≤ 1 := Val.le h3
      have p := areaS_pos r l s e h3 hse hs1 (by grind) (by grind)
      grind
theorem mul_div_w {w : Nat} (h : 1 ≤ w) (x : Rat) : (w : Rat) * (x / (w : Rat)) = x := by
  have := wpos h
  grind
theorem div_w_le {w : Nat} (h : 1 ≤ w) {x y : Rat} (q : x ≤ (w : Rat) * y) : x / (w : Rat) ≤ y := by
  have h0 := wpos h
  have e := mul_div_w h x
  exact Rat.le_of_mul_le_mul_left (by rw [e]; exact q) h0
theorem div_w_pos {w : Nat} (h : 1 ≤ w) {x : Rat} (q : 0 < x) : 0 < x / (w : Rat) := by
  have h0 := wpos h
  have e := mul_div_w h x
  exact Rat.lt_of_mul_lt_mul_left (c := (w : Rat)) (by rw [e]; grind) (by grind)
theorem mark_ok : ∀ (T : Steps) (b s left : Rat), Val b T → 0 < left → left ≤ areaS b T s 1 → ∃ p, markS b T s left = some p ∧ s < p ∧ b < p ∧ p ≤ 1 ∧ areaS b T s p = left
  | [], b, s, left, _, h0, h1 => by
    have h1 : left ≤ 0 := h1
    grind
  | (l, w) :: r, b, s, left, ⟨hbl, hw, hw2, h3⟩, h0, h1 => by
    have hl1 : l ≤ 1 := Val.le h3
    have h1 : left ≤ rowA s 1 b l w + areaS l r s 1 := h1
    by_cases c : s < l
    · have ea : rowA s 1 b l w = (w : Rat) * (l - cutLow b s) := by
        unfold rowA
        have e1 : cutHigh l 1 = l := by unfold cutHigh; grind
        rw [e1, if_pos (by unfold cutLow; grind)]
      by_cases d : (w : Rat) * (l - cutLow b s) < left
      · obtain ⟨p, hp, p1, p2, p3, p4⟩ := mark_ok r l s (left - (w : Rat) * (l - cutLow b s)) h3 (by grind) (by grind)
        refine ⟨p, ?_, p1, by grind, p3, ?_⟩
        · show (if s < l then _ else _) = _
          rw [if_pos c, if_pos d, hp]
        · show rowA s p b l w + areaS l r s p = left
          have e2 : rowA s p b l w = (w : Rat) * (l - cutLow b s) := by
            unfold rowA
            have e1 : cutHigh l p = l := by unfold cutHigh; grind
            rw [e1, if_pos (by unfold cutLow; grind)]
          grind
      · have q1 : left / (w : Rat) ≤ l - cutLow b s := div_w_le hw (by grind)
        have q2 : 0 < left / (w : Rat) := div_w_pos hw h0
        have q3 : s ≤ cutLow b s := by unfold cutLow; grind
        have q4 : b ≤ cutLow b s := by unfold cutLow; grind
        refine ⟨cutLow b s + left / (w : Rat), ?_, by grind, by grind, by grind, ?_⟩
        · show (if s < l then _ else _) = _
          rw [if_pos c, if_neg d]
        · show rowA s (cutLow b s + left / (w : Rat)) b l w + areaS l r s (cutLow b s + left / (w : Rat)) = left
          rw [areaS_ahead r l s _ h3 (by grind)]
          have e1 : cutHigh l (cutLow b s + left / (w : Rat)) = cutLow b s + left / (w : Rat) := by unfold cutHigh; grind
          have e2 : rowA s (cutLow b s + left / (w : Rat)) b l w = left := by
            unfold rowA
            rw [e1, if_pos (by grind)]
            have e3 : cutLow b s + left / (w : Rat) - cutLow b s = left / (w : Rat) := by grind
            rw [e3, mul_div_w hw]
          grind
    · have e0 : ∀ x, rowA s x b l w = 0 := fun x => by
        unfold rowA cutLow cutHigh
        grind
      obtain ⟨p, hp, p1, p2, p3, p4⟩ := mark_ok r l s left h3 h0 (by have := e0 1; grind)
      refine ⟨p, ?_, p1, by grind, p3, ?_⟩
      · show (if s < l then _ else _) = _
        rw [if_neg c, hp]
      · show rowA s p b l w + areaS l r s p = left
        have := e0 p
        grind
end Fk
end
section
/-! Numbers: a fraction in lowest terms, Euclid, sizes. -/
namespace Fk
/-- Euclid as the program walks it -/
def euc : Nat → Nat → Nat → Nat
  | 0, a, _ => a
  | n + 1, a, b => if b = 0 then a else euc n b (a % b)
theorem gcd_step (a b : Int) (ha : 0 ≤ a) (hb : 0 < b) : Int.gcd b (a.fmod b) = Int.gcd a b := by
  rw [Int.fmod_eq_emod_of_nonneg _ (by omega), Int.gcd_comm b]
  have e := Int.gcd_add_mul_left_left b (a % b) (a / b)
  rw [← e, Int.emod_add_mul_ediv]
theorem divInt_num {a b : Int} (hb : 0 < b) : (Rat.divInt a b).num = a / (Int.gcd a b : Int) := by
  rw [Rat.num_divInt, Int.sign_eq_one_of_pos hb, Int.one_mul, Int.gcd_comm]
theorem divInt_den {a b : Int} (hb : 0 < b) : ((Rat.divInt a b).den : Int) = b / (Int.gcd a b : Int) := by
  rw [Rat.den_divInt, if_neg (by omega), Int.gcd_comm]
  have e : (b.natAbs : Int) = b := by omega
  rw [Int.natCast_ediv, e]
/-- sizes -/
def Sm (N : Nat) (i : Int) : Prop := i.natAbs < 2 ^ N
theorem Sm.le {N : Nat} {i j : Int} (h : Sm N j) (h0 : 0 ≤ i) (h1 : i ≤ j) : Sm N i := Nat.lt_of_le_of_lt (by omega) h
theorem Sm.mono {N M : Nat} {i : Int} (h : Sm N i) (le : N ≤ M) : Sm M i := Nat.lt_of_lt_of_le h (Nat.pow_le_pow_right (by decide) le)
theorem Sm.mul {N M : Nat} {i j : Int} (a : Sm N i) (b : Sm M j) : Sm (N + M) (i * j) := by
  unfold Sm at a b ⊢
  rw [Int.natAbs_mul, Nat.pow_add]
  exact Nat.mul_lt_mul'' a b
theorem Sm.small {i : Int} (h : i.natAbs < 1024) : Sm 10 i := h
def Bd (N : Nat) (q : Rat) : Prop := Sm N q.num ∧ Sm N (q.den : Int)
theorem add_divInt (q r : Rat) : Rat.divInt (q.num * r.den + r.num * q.den) (q.den * r.den) = q + r := by
  have hq : ((q.den : Nat) : Int) ≠ 0 := by have := q.den_nz; omega
  have hr : ((r.den : Nat) : Int) ≠ 0 := by have := r.den_nz; omega
  rw [← Rat.divInt_add_divInt _ _ hq hr, Rat.num_divInt_den, Rat.num_divInt_den]
theorem sub_divInt (q r : Rat) : Rat.divInt (q.num * r.den - r.num * q.den) (q.den * r.den) = q - r := by
  have hq : ((q.den : Nat) : Int) ≠ 0 := by have := q.den_nz; omega
  have hr : ((r.den : Nat) : Int) ≠ 0 := by have := r.den_nz; omega
  rw [← Rat.divInt_sub_divInt _ _ hq hr, Rat.num_divInt_den, Rat.num_divInt_den]
theorem mul_divInt (q r : Rat) : Rat.divInt (q.num * r.num) (q.den * r.den) = q * r := by
  rw [← Rat.divInt_mul_divInt, Rat.num_divInt_den, Rat.num_divInt_den]
theorem div_divInt (q r : Rat) : Rat.divInt (q.num * r.den) (q.den * r.num) = q / r := by
  rw [← Rat.divInt_mul_divInt, Rat.num_divInt_den, ← Rat.inv_divInt, Rat.num_divInt_den]
  rfl
/-- multiples of 1 / D -/
def Gr (D : Nat) (q : Rat) : Prop := ∃ n : Int, q * (D : Rat) = (n : Rat)
theorem Gr.den {D : Nat} (hD : 0 < D) {q : Rat} (h : Gr D q) : q.den ∣ D := by
  obtain ⟨n, h⟩ := h
  have hd : (D : Rat) ≠ 0 := by
    have := Rat.natCast_pos.mpr hD
    grind
  have e : q = Rat.divInt n (D : Int) := by
    rw [Rat.divInt_eq_div, ← h]
    show q = q * (D : Rat) / ((D : Nat) : Rat)
    rw [Rat.mul_div_cancel hd]
  have e2 : q.den = D / Int.gcd (D : Int) n := by
    rw [e, Rat.den_divInt, if_neg (by omega)]
    rfl
  rw [e2]
  have g : Int.gcd (D : Int) n ∣ D := by
    have := Int.gcd_dvd_natAbs_left (D : Int) n
    simpa using this
  exact Nat.div_dvd_of_dvd g
theorem Gr.add {D : Nat} {q r : Rat} (a : Gr D q) (b : Gr D r) : Gr D (q + r) := by
  obtain ⟨n, a⟩ := a
  obtain ⟨m, b⟩ := b
  exact ⟨n + m, by rw [Rat.intCast_add, ← a, ← b]; grind⟩
theorem Gr.sub {D : Nat} {q r : Rat} (a : Gr D q) (b : Gr D r) : Gr D (q - r) := by
  obtain ⟨n, a⟩ := a
  obtain ⟨m, b⟩ := b
  exact ⟨n - m, by rw [Rat.intCast_sub, ← a, ← b]; grind⟩
theorem Gr.nmul {D : Nat} {q : Rat} (w : Nat) (a : Gr D q) : Gr D ((w : Rat) * q) := by
  obtain ⟨n, a⟩ := a
  refine ⟨(w : Int) * n, ?_⟩
  rw [Rat.intCast_mul, ← a, Rat.intCast_natCast]
  grind
theorem Gr.zero (D : Nat) : Gr D 0 := ⟨0, by rw [Rat.zero_mul] <;> rfl⟩
theorem Gr.one (D : Nat) : Gr D 1 := ⟨(D : Int), by rw [Rat.one_mul, Rat.intCast_natCast]⟩
/-- a finer grid -/
theorem Gr.up {D : Nat} {q : Rat} (k : Nat) (a : Gr D q) : Gr (D * k) q := by
  obtain ⟨n, a⟩ := a
  refine ⟨n * (k : Int), ?_⟩
  rw [Rat.intCast_mul, ← a, Rat.natCast_mul, Rat.intCast_natCast]
  grind
theorem Gr.up' {D : Nat} {q : Rat} (k : Nat) (a : Gr D q) : Gr (k * D) q := by
  rw [Nat.mul_comm]
  exact a.up k
theorem Gr.divw {D w : Nat} {q : Rat} (hw : 0 < w) (a : Gr D q) : Gr (D * w) (q / (w : Rat)) := by
  obtain ⟨n, a⟩ := a
  refine ⟨n, ?_⟩
  have h : (w : Rat) ≠ 0 := by
    have := Rat.natCast_pos.mpr hw
    grind
  rw [← a, Rat.natCast_mul]
  have e : q / (w : Rat) * (w : Rat) = q := Rat.div_mul_cancel h
  grind
theorem Gr.self (q : Rat) : Gr q.den q := ⟨q.num, by
  have h : ((q.den : Nat) : Rat) ≠ 0 := by
    have := Rat.natCast_pos.mpr (Nat.pos_of_ne_zero q.den_nz)
    grind
  have e : q = (q.num : Rat) / (q.den : Rat) := by
    have := Rat.num_divInt_den q
    rw [Rat.divInt_eq_div] at this
    exact this.symm
  have e2 := Rat.div_mul_cancel (a := (q.num : Rat)) h
  rw [← e] at e2
  exact e2⟩
/-- a value between 0 and M on the grid D is small -/
theorem Gr.bd {D M N : Nat} {q : Rat} (hD : 0 < D) (h : Gr D q) (h0 : 0 ≤ q) (hM : q ≤ (M : Rat)) (hN : (M + 1) * D < 2 ^ N) : Bd N q := by
  have hd := Gr.den hD h
  have hle := Nat.le_of_dvd hD hd
  have hlt : q.den < 2 ^ N := by
    refine Nat.lt_of_le_of_lt hle (Nat.lt_of_le_of_lt ?_ hN)
    exact Nat.le_mul_of_pos_left _ (Nat.succ_pos _)
  refine ⟨?_, by
    unfold Sm
    simpa using hlt⟩
  unfold Sm
  have hn : 0 ≤ q.num := Rat.num_nonneg.mpr h0
  have h2 : q.num * (((M : Rat)).den : Int) ≤ ((M : Rat)).num * (q.den : Int) := (Rat.le_iff _ _).mp hM
  have h3 : q.num ≤ (M : Int) * (q.den : Int) := by simpa using h2
  have h4 : q.num.natAbs ≤ M * q.den := by
    have : (q.num.natAbs : Int) ≤ ((M * q.den : Nat) : Int) := by
      rw [Int.natCast_mul]
      omega
    exact Int.ofNat_le.mp this
  have h5 : M * q.den ≤ M * D := Nat.mul_le_mul_left _ hle
  have h6 : M * D ≤ (M + 1) * D := Nat.mul_le_mul_right _ (Nat.le_succ _)
  exact Nat.lt_of_le_of_lt (Nat.le_trans h4 (Nat.le_trans h5 h6)) hN
theorem Bd.mono {N M : Nat} {q : Rat} (h : Bd N q) (le : N ≤ M) : Bd M q := ⟨h.1.mono le, h.2.mono le⟩
theorem lt_cross (q r : Rat) : q < r ↔ q.num * (r.den : Int) < r.num * (q.den : Int) := Rat.lt_iff q r
/-- a fraction of two whole numbers that is in lowest terms -/
theorem Rat.ext_div {a b c d : Int} (hb : 0 < b) (hd : 0 < d) (h : a * d = c * b) : Rat.divInt a b = Rat.divInt c d :=
  (Rat.divInt_eq_divInt_iff (by omega) (by omega)).mpr h
end Fk
end
section
set_option Elab.async false
set_option maxRecDepth 100000
set_option maxHeartbeats 1000000
set_option linter.all false
namespace Fk
open PySem PySem.Spec PyProof.Rows L2 Evl

/-! ### data -/
/-- of ints, tuples and lists alone, nested n deep at most -/
def okD : Nat → PyData → Bool
  | _, .int _ => true
  | n + 1, .tuple xs => xs.all (okD n)
  | n + 1, .list xs => xs.all (okD n)
  | _, _ => false
/-- no list within -/
def nlD : Nat → PyData → Bool
  | _, .int _ => true
  | _, .bool _ => true
  | n + 1, .tuple xs => xs.all (nlD n)
  | _, _ => false
theorem okD_lay : ∀ (n : Nat) (d : PyData), okD n d = true → d.canLay0 = true ∧ d.depth ≤ n := by
  intro n
  induction n with
  | zero =>
    intro d h
    cases d with
    | int i => exact ⟨rfl, Nat.le_refl _⟩
    | none => simp [okD] at h
    | bool b => simp [okD] at h
    | str x => simp [okD] at h
    | list xs => simp [okD] at h
    | tuple xs => simp [okD] at h
    | dict xs => simp [okD] at h
  | succ n ih =>
    have all : ∀ xs : List PyData, xs.all (okD n) = true → PyData.canLayAll0 xs = true ∧ PyData.depthAll xs ≤ n := by
      intro xs
      induction xs with
      | nil => intro _; exact ⟨by simp [PyData.canLayAll0], by simp [PyData.depthAll]⟩
      | cons x r ihr =>
        intro h
        rw [List.all_cons, Bool.and_eq_true] at h
        obtain ⟨h1, h2⟩ := ih x h.1
        obtain ⟨h3, h4⟩ := ihr h.2
        refine ⟨by simp [PyData.canLayAll0, h1, h3], ?_⟩
        simp only [PyData.depthAll]
        omega
    intro d h
    cases d with
    | int i => exact ⟨rfl, Nat.zero_le _⟩
    | none => simp [okD] at h
    | bool b => simp [okD] at h
    | str x => simp [okD] at h
    | list xs =>
      obtain ⟨h1, h2⟩ := all xs (by simpa [okD] using h)
      refine ⟨by simp [PyData.canLay0, h1], ?_⟩
      simp only [PyData.depth]
      omega
    | tuple xs =>
      obtain ⟨h1, h2⟩ := all xs (by simpa [okD] using h)
      refine ⟨by simp [PyData.canLay0, h1], ?_⟩
      simp only [PyData.depth]
      omega
    | dict xs => simp [okD] at h
theorem okD_shaped {n : Nat} {d : PyData} (h : okD n d = true) (hn : n ≤ 64 := by decide) : SeqAt.shaped d = true := by
  obtain ⟨h1, h2⟩ := okD_lay n d h
  unfold SeqAt.shaped
  rw [h1, Bool.true_and]
  exact decide_eq_true (by omega)
theorem eqv_ok : ∀ (n m : Nat) (d e : PyData), okD n d = true → okD m e = true → (PyData.eqv d e = true ↔ d = e) := by
  intro n
  induction n with
  | zero =>
    intro m d e h1 h2
    cases d with
    | int i =>
      cases e with
      | int j => simp [PyData.eqv]
      | none => cases m <;> simp [okD] at h2
      | bool b => cases m <;> simp [okD] at h2
      | str x => cases m <;> simp [okD] at h2
      | list xs => simp [PyData.eqv]
      | tuple xs => simp [PyData.eqv]
      | dict xs => cases m <;> simp [okD] at h2
    | none => simp [okD] at h1
    | bool b => simp [okD] at h1
    | str x => simp [okD] at h1
    | list xs => simp [okD] at h1
    | tuple xs => simp [okD] at h1
    | dict xs => simp [okD] at h1
  | succ n ih =>
    have all : ∀ (m : Nat) (xs ys : List PyData), xs.all (okD n) = true → ys.all (okD m) = true → (PyData.eqvAll xs ys = true ↔ xs = ys) := by
      intro m xs
      induction xs with
      | nil =>
        intro ys _ _
        cases ys with
        | nil => simp [PyData.eqvAll]
        | cons y r => simp [PyData.eqvAll]
      | cons x r ihr =>
        intro ys h1 h2
        cases ys with
        | nil => simp [PyData.eqvAll]
        | cons y q =>
          rw [List.all_cons, Bool.and_eq_true] at h1 h2
          have a := ih m x y h1.1 h2.1
          have b := ihr q h1.2 h2.2
          rw [PyData.eqvAll, Bool.and_eq_true, a, b, List.cons.injEq]
    intro m d e h1 h2
    cases d with
    | int i =>
      cases e with
      | int j => simp [PyData.eqv]
      | none => cases m <;> simp [okD] at h2
      | bool b => cases m <;> simp [okD] at h2
      | str x => cases m <;> simp [okD] at h2
      | list xs => simp [PyData.eqv]
      | tuple xs => simp [PyData.eqv]
      | dict xs => cases m <;> simp [okD] at h2
    | none => simp [okD] at h1
    | bool b => simp [okD] at h1
    | str x => simp [okD] at h1
    | dict xs => simp [okD] at h1
    | list xs =>
      cases e with
      | int j => simp [PyData.eqv]
      | none => cases m <;> simp [okD] at h2
      | bool b => cases m <;> simp [okD] at h2
      | str x => cases m <;> simp [okD] at h2
      | dict xs => cases m <;> simp [okD] at h2
      | tuple ys => simp [PyData.eqv]
      | list ys =>
        cases m with
        | zero => simp [okD] at h2
        | succ m =>
          have a := all m xs ys (by simpa [okD] using h1) (by simpa [okD] using h2)
          rw [PyData.eqv, a]
          simp
    | tuple xs =>
      cases e with
      | int j => simp [PyData.eqv]
      | none => cases m <;> simp [okD] at h2
      | bool b => cases m <;> simp [okD] at h2
      | str x => cases m <;> simp [okD] at h2
      | dict xs => cases m <;> simp [okD] at h2
      | list ys => simp [PyData.eqv]
      | tuple ys =>
        cases m with
        | zero => simp [okD] at h2
        | succ m =>
          have a := all m xs ys (by simpa [okD] using h1) (by simpa [okD] using h2)
          rw [PyData.eqv, a]
          simp
theorem eqv_dec {n m : Nat} {d e : PyData} {p : Prop} [Decidable p] (h1 : okD n d = true) (h2 : okD m e = true) (h : d = e ↔ p) : PyData.eqv d e = decide p := by
  rw [Bool.eq_iff_iff, eqv_ok n m d e h1 h2, h, decide_eq_true_iff]

/-! ### what a value tells, and what keeps it -/
section
variable {K : PySem.W.Frag} {H H' : Hp} {v : V} {d : PyData} {ds es : List PyData} {vs ws : List V}
mutual
theorem dp_keep (hl : ∀ a xs, SqL K H a xs → SqL K H' a xs) (ht : ∀ a xs, SqT K H a xs → SqT K H' a xs) : ∀ (d : PyData) (v : V), Dp K H v d → Dp K H' v d
  | .none, _, h => by cases h; exact .non
  | .bool _, _, h => by cases h; exact .bl _
  | .int _, _, h => by cases h; exact .int _
  | .str _, _, h => by cases h; exact .str _
  | .dict _, _, h => by cases h
  | .list ds, _, h => by
    cases h with
    | lst h1 h2 => exact .lst (hl _ _ h1) (dps_keep hl ht ds _ h2)
  | .tuple ds, _, h => by
    cases h with
    | tup h1 h2 => exact .tup (ht _ _ h1) (dps_keep hl ht ds _ h2)
theorem dps_keep (hl : ∀ a xs, SqL K H a xs → SqL K H' a xs) (ht : ∀ a xs, SqT K H a xs → SqT K H' a xs) : ∀ (ds : List PyData) (vs : List V), DpAll K H vs ds → DpAll K H' vs ds
  | [], _, h => by cases h; exact .nil
  | d :: ds, _, h => by
    cases h with
    | cons h1 h2 => exact .cons (dp_keep hl ht d _ h1) (dps_keep hl ht ds _ h2)
end
theorem _root_.L2.Dp.mono (e : Ex H H') (h : Dp K H v d) : Dp K H' v d := dp_keep (fun _ _ => ex_l e) (fun _ _ => ex_t e) d v h
theorem _root_.L2.DpAll.mono (e : Ex H H') (h : DpAll K H vs ds) : DpAll K H' vs ds := dps_keep (fun _ _ => ex_l e) (fun _ _ => ex_t e) ds vs h
theorem dp_keepT (ht : ∀ a xs, SqT K H a xs → SqT K H' a xs) : ∀ (n : Nat) (d : PyData) (v : V), nlD n d = true → Dp K H v d → Dp K H' v d := by
  intro n
  induction n with
  | zero =>
    intro d v hn h
    cases h with
    | int i => exact .int i
    | bl b => exact .bl b
    | non => simp [nlD] at hn
    | str x => simp [nlD] at hn
    | lst _ _ => simp [nlD] at hn
    | tup _ _ => simp [nlD] at hn
  | succ n ih =>
    intro d v hn h
    have all : ∀ (ds : List PyData) (vs : List V), ds.all (nlD n) = true → DpAll K H vs ds → DpAll K H' vs ds := by
      intro ds
      induction ds with
      | nil => intro vs _ h; cases h; exact .nil
      | cons d r ihr =>
        intro vs hn h
        rw [List.all_cons, Bool.and_eq_true] at hn
        cases h with
        | cons h1 h2 => exact .cons (ih _ _ hn.1 h1) (ihr _ hn.2 h2)
    cases h with
    | int i => exact .int i
    | bl b => exact .bl b
    | non => simp [nlD] at hn
    | str x => simp [nlD] at hn
    | lst _ _ => simp [nlD] at hn
    | tup h1 h2 => exact .tup (ht _ _ h1) (all _ _ (by simpa [nlD] using hn) h2)
theorem dps_keepT (ht : ∀ a xs, SqT K H a xs → SqT K H' a xs) (n : Nat) : ∀ (ds : List PyData) (vs : List V), ds.all (nlD n) = true → DpAll K H vs ds → DpAll K H' vs ds
  | [], _, _, h => by cases h; exact .nil
  | d :: ds, _, hn, h => by
    rw [List.all_cons, Bool.and_eq_true] at hn
    cases h with
    | cons h1 h2 => exact .cons (dp_keepT ht n d _ hn.1 h1) (dps_keepT ht n ds _ hn.2 h2)
theorem _root_.L2.Dp.int_inv {i : Int} (h : Dp K H v (.int i)) : v = .int i := by cases h; rfl
theorem _root_.L2.Dp.bl_inv {b : Bool} (h : Dp K H v (.bool b)) : v = .bl b := by cases h; rfl
theorem _root_.L2.Dp.tup_inv (h : Dp K H v (.tuple ds)) : ∃ p xs, v = .ref p ∧ SqT K H p xs ∧ DpAll K H xs ds := by
  cases h with
  | tup h1 h2 => exact ⟨_, _, rfl, h1, h2⟩
theorem _root_.L2.Dp.lst_inv (h : Dp K H v (.list ds)) : ∃ p xs, v = .ref p ∧ SqL K H p xs ∧ DpAll K H xs ds := by
  cases h with
  | lst h1 h2 => exact ⟨_, _, rfl, h1, h2⟩
theorem dps_len : ∀ {ds : List PyData} {vs : List V}, DpAll K H vs ds → vs.length = ds.length
  | [], _, h => by cases h; rfl
  | _ :: _, _, h => by
    cases h with
    | cons h1 h2 => rw [List.length_cons, List.length_cons, dps_len h2]
theorem dps_get : ∀ {ds : List PyData} {vs : List V} {j : Nat} {d : PyData}, DpAll K H vs ds → ds[j]? = some d → ∃ v, vs[j]? = some v ∧ Dp K H v d
  | [], _, _, _, _, e => by simp at e
  | _ :: _, _, 0, _, h, e => by
    cases h with
    | cons h1 h2 =>
      cases (Option.some.inj e)
      exact ⟨_, rfl, h1⟩
  | _ :: _, _, j + 1, _, h, e => by
    cases h with
    | cons h1 h2 =>
      obtain ⟨v, e1, e2⟩ := dps_get (j := j) h2 (by simpa using e)
      exact ⟨v, by simpa using e1, e2⟩
theorem dps_getV : ∀ {ds : List PyData} {vs : List V} {j : Nat} {v : V}, DpAll K H vs ds → vs[j]? = some v → ∃ d, ds[j]? = some d ∧ Dp K H v d
  | [], _, _, _, h, e => by cases h; simp at e
  | _ :: _, _, 0, _, h, e => by
    cases h with
    | cons h1 h2 =>
      cases (Option.some.inj e)
      exact ⟨_, rfl, h1⟩
  | _ :: _, _, j + 1, _, h, e => by
    cases h with
    | cons h1 h2 =>
      obtain ⟨v, e1, e2⟩ := dps_getV (j := j) h2 (by simpa using e)
      exact ⟨v, by simpa using e1, e2⟩
theorem dps_app : ∀ {ds es : List PyData} {vs ws : List V}, DpAll K H vs ds → DpAll K H ws es → DpAll K H (vs ++ ws) (ds ++ es)
  | [], _, _, _, h, q => by cases h; exact q
  | _ :: _, _, _, _, h, q => by
    cases h with
    | cons h1 h2 => exact .cons h1 (dps_app h2 q)
theorem _root_.L2.DpAll.one (h : Dp K H v d) : DpAll K H [v] [d] := .cons h .nil
theorem dps_drop : ∀ (n : Nat) {ds : List PyData} {vs : List V}, DpAll K H vs ds → DpAll K H (vs.drop n) (ds.drop n)
  | 0, _, _, h => h
  | n + 1, [], _, h => by cases h; exact .nil
  | n + 1, _ :: _, _, h => by
    cases h with
    | cons h1 h2 => exact dps_drop n h2
theorem dps_take : ∀ (n : Nat) {ds : List PyData} {vs : List V}, DpAll K H vs ds → DpAll K H (vs.take n) (ds.take n)
  | 0, _, _, h => by exact .nil
  | n + 1, [], _, h => by cases h; exact .nil
  | n + 1, _ :: _, _, h => by
    cases h with
    | cons h1 h2 => exact .cons h1 (dps_take n h2)
theorem dps_erase : ∀ (n : Nat) {ds : List PyData} {vs : List V}, DpAll K H vs ds → DpAll K H (vs.eraseIdx n) (ds.eraseIdx n)
  | n, [], _, h => by cases h; exact .nil
  | 0, _ :: _, _, h => by
    cases h with
    | cons h1 h2 => exact h2
  | n + 1, _ :: _, _, h => by
    cases h with
    | cons h1 h2 => exact .cons h1 (dps_erase n h2)
theorem dps_set : ∀ (n : Nat) {ds : List PyData} {vs : List V}, DpAll K H vs ds → Dp K H v d → DpAll K H (vs.set n v) (ds.set n d)
  | n, [], _, h, _ => by cases h; exact .nil
  | 0, _ :: _, _, h, q => by
    cases h with
    | cons h1 h2 => exact .cons q h2
  | n + 1, _ :: _, _, h, q => by
    cases h with
    | cons h1 h2 => exact .cons h1 (dps_set n h2 q)
theorem _root_.L2.DpAll.len (h : DpAll K H vs ds) : vs.length = ds.length := dps_len h
theorem _root_.L2.DpAll.get {j : Nat} (h : DpAll K H vs ds) (e : ds[j]? = some d) : ∃ v, vs[j]? = some v ∧ Dp K H v d := dps_get h e
theorem _root_.L2.DpAll.getV {j : Nat} (h : DpAll K H vs ds) (e : vs[j]? = some v) : ∃ d, ds[j]? = some d ∧ Dp K H v d := dps_getV h e
theorem _root_.L2.DpAll.app (h : DpAll K H vs ds) (q : DpAll K H ws es) : DpAll K H (vs ++ ws) (ds ++ es) := dps_app h q
theorem _root_.L2.DpAll.drop (n : Nat) (h : DpAll K H vs ds) : DpAll K H (vs.drop n) (ds.drop n) := dps_drop n h
theorem _root_.L2.DpAll.take (n : Nat) (h : DpAll K H vs ds) : DpAll K H (vs.take n) (ds.take n) := dps_take n h
theorem _root_.L2.DpAll.erase (n : Nat) (h : DpAll K H vs ds) : DpAll K H (vs.eraseIdx n) (ds.eraseIdx n) := dps_erase n h
theorem _root_.L2.DpAll.set (n : Nat) (h : DpAll K H vs ds) (q : Dp K H v d) : DpAll K H (vs.set n v) (ds.set n d) := dps_set n h q
theorem atI_eq {α β : Type} {xs : List α} {ys : List β} {i : Int} {y : β} (hl : xs.length = ys.length) (h : atI ys i = some y) : ∃ j : Nat, ys[j]? = some y ∧ ∀ x : α, xs[j]? = some x → atI xs i = some x := by
  unfold atI at h ⊢
  rw [hl]
  cases e : ixN ys.length i with
  | none => rw [e] at h; cases h
  | some j =>
    rw [e] at h
    exact ⟨j, h, fun x hx => hx⟩
theorem _root_.L2.DpAll.at {i : Int} (h : DpAll K H vs ds) (e : atI ds i = some d) : ∃ v, atI vs i = some v ∧ Dp K H v d := by
  obtain ⟨j, e1, e2⟩ := atI_eq h.len e
  obtain ⟨v, e3, e4⟩ := h.get e1
  exact ⟨v, e2 v e3, e4⟩
theorem dps_ints : ∀ {ns : List Int} {vs : List V}, DpAll K H vs (ns.map PyData.int) → vs = ns.map V.int
  | [], _, h => by cases h; rfl
  | _ :: _, _, h => by
    cases h with
    | cons h1 h2 =>
      cases h1
      rw [List.map_cons, ← dps_ints h2]
theorem ints_dps : ∀ (ns : List Int), DpAll K H (ns.map V.int) (ns.map PyData.int)
  | [] => .nil
  | _ :: r => .cons (.int _) (ints_dps r)

/-! ### a heap without one object -/
def hid (l : Addr) (H : Hp) : Hp := fun b => if b = l then none else H b
theorem hid_upd {l : Addr} {o : HO} : hid l (upd H l o) = hid l H := by
  funext b
  unfold hid
  split
  · rfl
  · rename_i h
    exact upd_ne h
theorem hid_ex {l : Addr} : Ex (hid l H) H := fun b o h => by
  unfold hid at h
  split at h
  · cases h
  · exact h
theorem hid_ne {l b : Addr} (h : b ≠ l) : hid l H b = H b := by
  unfold hid
  rw [if_neg h]
theorem hid_at {l : Addr} : hid l H l = none := by
  unfold hid
  rw [if_pos rfl]
theorem hid_mono {l : Addr} (e : Ex H H') : Ex (hid l H) (hid l H') := fun b o h => by
  unfold hid at h ⊢
  split at h
  · cases h
  · rename_i hb
    rw [if_neg hb]
    exact e b o h
/-- tuples stand apart from a list -/
theorem sqt_hid {l : Addr} {xs : List V} (hl : H l = some (.lst xs)) : ∀ a ys, SqT K H a ys → SqT K (hid l H) a ys := fun a ys h => by
  have hne : ∀ o, H a = some o → (∀ zs, o ≠ .lst zs) → hid l H a = some o := fun o e z => by
    rw [hid_ne]
    · exact e
    · intro q
      rw [q, hl] at e
      exact z xs (Option.some.inj e).symm
  rcases h with (h | ⟨o, h⟩) | h
  · exact .inl (.inl (hne _ h fun zs q => by cases q))
  · exact .inl (.inr ⟨o, hne _ h fun zs q => by cases q⟩)
  · exact .inr h
theorem _root_.L2.Dp.hid {l : Addr} {xs : List V} {n : Nat} (hl : H l = some (.lst xs)) (hn : nlD n d = true) (h : Dp K H v d) : Dp K (hid l H) v d := dp_keepT (sqt_hid hl) n d v hn h
theorem _root_.L2.Dp.upd {l : Addr} {xs : List V} {o : HO} {n : Nat} (hl : H l = some (.lst xs)) (hn : nlD n d = true) (h : Dp K H v d) : Dp K (L2.upd H l o) v d := by
  have e : Ex (Fk.hid l H) (L2.upd H l o) := by
    rw [← hid_upd (o := o)]
    exact hid_ex
  exact (h.hid hl hn).mono e
theorem _root_.L2.DpAll.upd {l : Addr} {xs : List V} {o : HO} {n : Nat} (hl : H l = some (.lst xs)) (hn : ds.all (nlD n) = true) (h : DpAll K H vs ds) : DpAll K (L2.upd H l o) vs ds := by
  have e : Ex (Fk.hid l H) (L2.upd H l o) := by
    rw [← hid_upd (o := o)]
    exact hid_ex
  exact DpAll.mono e (dps_keepT (sqt_hid hl) n ds vs hn h)
end

/-! ### what evaluates to data -/
def EvD (K : PySem.W.Frag) (te : TE) (σ : L2.St) (H : Hp) (d : PyData) : Prop := ∀ H1, Ex H H1 → ∀ Q : VK, (∀ v H2, Ex H1 H2 → Dp K H2 v d → Q v H2) → te σ H1 Q
def EvAD (K : PySem.W.Frag) (ta : TA) (σ : L2.St) (H : Hp) (ds : List PyData) : Prop := ∀ H1, Ex H H1 → ∀ Q : List V → Hp → Prop, (∀ vs H2, Ex H1 H2 → DpAll K H2 vs ds → Q vs H2) → ta σ H1 Q
/-- a new list of data -/
def EvLD (K : PySem.W.Frag) (te : TE) (σ : L2.St) (H : Hp) (ds : List PyData) : Prop := ∀ H1, Ex H H1 → ∀ Q : VK, (∀ p vs H2, H1 p = none → Ex H1 H2 → H2 p = some (.lst vs) → DpAll K H2 vs ds → Q (.ref p) H2) → te σ H1 Q
section
variable {K : PySem.W.Frag} {σ : L2.St} {H H' : Hp} {ta tb te tx : TE} {t u : TT} {v : V} {d e : PyData} {ds es : List PyData} {r : R2} {tas : TA}
theorem EvD.mono (x : Ex H H') (h : EvD K te σ H d) : EvD K te σ H' d := fun H1 a Q q => h H1 (x.trans a) Q q
theorem EvAD.mono (x : Ex H H') (h : EvAD K tas σ H ds) : EvAD K tas σ H' ds := fun H1 a Q q => h H1 (x.trans a) Q q
theorem EvLD.mono (x : Ex H H') (h : EvLD K te σ H ds) : EvLD K te σ H' ds := fun H1 a Q q => h H1 (x.trans a) Q q
theorem ed_var {i : Nat} (h : σ[i]? = some (some v)) (hd : Dp K H v d) : EvD K (tVar i) σ H d := fun H1 e Q q => ⟨v, h, q v H1 (Ex.refl H1) (hd.mono e)⟩
theorem ed_c (hd : Dp K H v d) : EvD K (tC v) σ H d := fun H1 e Q q => q v H1 (Ex.refl H1) (hd.mono e)
theorem ed_int {i : Int} (h : Ev te σ H (.int i)) : EvD K te σ H (.int i) := fun H1 e Q q => h H1 e Q fun H2 e2 => q _ H2 e2 (.int i)
theorem ed_bl {i : Bool} (h : Ev te σ H (.bl i)) : EvD K te σ H (.bool i) := fun H1 e Q q => h H1 e Q fun H2 e2 => q _ H2 e2 (.bl i)
theorem ev_int {i : Int} (h : EvD K te σ H (.int i)) : Ev te σ H (.int i) := fun H1 e Q q => h H1 e Q fun v H2 e2 hv => by
  rw [hv.int_inv]
  exact q H2 e2
theorem ev_bl {b : Bool} (h : EvD K te σ H (.bool b)) : Ev te σ H (.bl b) := fun H1 e Q q => h H1 e Q fun v H2 e2 hv => by
  rw [hv.bl_inv]
  exact q H2 e2
theorem ev_vari {i : Nat} {n : Int} (h : σ[i]? = some (some (.int n))) : Ev (tVar i) σ H (.int n) := ev_var h
theorem EvLD.toD (h : EvLD K te σ H ds) : EvD K te σ H (.list ds) := fun H1 e Q q => h H1 e Q fun p vs H2 _ e2 h2 h3 => q _ H2 e2 (.lst (SqL.of h2) h3)
/-- t[i], l[i] -/
theorem ed_ixT {i : Int} (ha : EvD K ta σ H (.tuple ds)) (hb : Ev tb σ H (.int i)) (hi : atI ds i = some d) : EvD K (tOp (rIxT K) ta tb) σ H d := fun H1 x Q q =>
  ha H1 x _ fun v H2 x2 hv => hb H2 (x.trans x2) _ fun H3 x3 => by
    obtain ⟨p, xs, rfl, h1, h2⟩ := (hv.mono x3).tup_inv
    obtain ⟨y, e1, e2⟩ := h2.at hi
    exact ⟨p, xs, i, y, rfl, rfl, h1, e1, q y H3 (x2.trans x3) e2⟩
theorem ed_ixL {i : Int} (ha : EvD K ta σ H (.list ds)) (hb : Ev tb σ H (.int i)) (hi : atI ds i = some d) : EvD K (tOp (rIxL K) ta tb) σ H d := fun H1 x Q q =>
  ha H1 x _ fun v H2 x2 hv => hb H2 (x.trans x2) _ fun H3 x3 => by
    obtain ⟨p, xs, rfl, h1, h2⟩ := (hv.mono x3).lst_inv
    obtain ⟨y, e1, e2⟩ := h2.at hi
    exact ⟨p, xs, i, y, rfl, rfl, h1, e1, q y H3 (x2.trans x3) e2⟩
theorem ead_nil : EvAD K tNil σ H [] := fun H1 _ Q q => q [] H1 (Ex.refl H1) .nil
theorem ead_cons (h : EvD K te σ H d) (hr : EvAD K tas σ H ds) : EvAD K (tCons te tas) σ H (d :: ds) := fun H1 x Q q =>
  h H1 x _ fun v H2 x2 hv => hr H2 (x.trans x2) _ fun vs H3 x3 hvs => q _ H3 (x2.trans x3) (.cons (hv.mono x3) hvs)
theorem ed_tup (h : EvAD K tas σ H ds) (hl : ds.length ≤ 100000) : EvD K (tTup tas) σ H (.tuple ds) := fun H1 x Q q =>
  h H1 x _ fun vs H2 x2 hvs => ⟨sz_of (by rw [hvs.len]; exact hl), fun p hp => q _ _ (x2.trans (Ex.new hp)) (.tup (st_of upd_same) (hvs.mono (Ex.new hp)))⟩
theorem eld_lst (h : EvAD K tas σ H ds) (hl : ds.length ≤ 100000) : EvLD K (tLst tas) σ H ds := fun H1 x Q q =>
  h H1 x _ fun vs H2 x2 hvs => ⟨sz_of (by rw [hvs.len]; exact hl), fun p hp => q p vs _ (fresh_back x2 hp) (x2.trans (Ex.new hp)) upd_same (hvs.mono (Ex.new hp))⟩
theorem ev_lenL (ha : EvD K ta σ H (.list ds)) : Ev (tCB (rLenS K) (tCons ta tNil)) σ H (.int (ds.length : Int)) := fun H1 x Q q =>
  ha H1 x _ fun v H2 x2 hv => by
    obtain ⟨p, xs, rfl, h1, h2⟩ := hv.lst_inv
    exact ⟨p, xs, rfl, .inl h1, by rw [h2.len]; exact q H2 x2⟩
theorem ev_lenT (ha : EvD K ta σ H (.tuple ds)) : Ev (tCB (rLenS K) (tCons ta tNil)) σ H (.int (ds.length : Int)) := fun H1 x Q q =>
  ha H1 x _ fun v H2 x2 hv => by
    obtain ⟨p, xs, rfl, h1, h2⟩ := hv.tup_inv
    exact ⟨p, xs, rfl, .inr h1, by rw [h2.len]; exact q H2 x2⟩
/-- a == b, a != b of data -/
theorem ev_eqD {n m : Nat} {p : Prop} [Decidable p] (ha : EvD K ta σ H d) (hb : EvD K tb σ H e) (h1 : okD n d = true) (h2 : okD m e = true) (h : d = e ↔ p) (hn : n ≤ 64 := by decide) (hm : m ≤ 64 := by decide) :
    Ev (tOp (rEqD K) ta tb) σ H (.bl (decide p)) := fun H1 x Q q =>
  ha H1 x _ fun v H2 x2 hv => hb H2 (x.trans x2) _ fun w H3 x3 hw => ⟨d, e, hv.mono x3, hw, okD_shaped h1 hn, okD_shaped h2 hm, by rw [eqv_dec h1 h2 h]; exact q H3 (x2.trans x3)⟩
theorem ev_neD {n m : Nat} {p : Prop} [Decidable p] (ha : EvD K ta σ H d) (hb : EvD K tb σ H e) (h1 : okD n d = true) (h2 : okD m e = true) (h : d = e ↔ p) (hn : n ≤ 64 := by decide) (hm : m ≤ 64 := by decide) :
    Ev (tOp (rNeD K) ta tb) σ H (.bl (!decide p)) := fun H1 x Q q =>
  ha H1 x _ fun v H2 x2 hv => hb H2 (x.trans x2) _ fun w H3 x3 hw => ⟨d, e, hv.mono x3, hw, okD_shaped h1 hn, okD_shaped h2 hm, by rw [eqv_dec h1 h2 h]; exact q H3 (x2.trans x3)⟩
/-- what a pure def promises: from data to data -/
def spP (K : PySem.W.Frag) (R : List PyData → PyData → Prop) : Sp := fun vs H Q _ => ∃ ds d, DpAll K H vs ds ∧ R ds d ∧ ∀ v H', Ex H H' → Dp K H' v d → Q v H'
theorem ed_call {R : List PyData → PyData → Prop} (h : EvAD K tas σ H ds) (hr : R ds d) : EvD K (tCall (spP K R) [] E0 tas) σ H d := fun H1 x Q q =>
  h H1 x _ fun vs H2 x2 hvs => by
    rw [List.append_nil]
    exact ⟨ds, d, hvs, hr, fun v H3 x3 hv => q v H3 (x2.trans x3) hv⟩
/-! statements -/
variable {D : Ends} {tz tu tw : TS}
theorem s_asgD {i : Nat} (h : EvD K te σ H d) (k : ∀ v H1, Ex H H1 → Dp K H1 v d → D.nx (σ.set i (some v)) H1) : tAsg te (gName i) D σ H := h H (Ex.refl H) _ fun v H1 e hv => k v H1 e hv
theorem q_asgD {i : Nat} (h : EvD K te σ H d) (k : ∀ v H1, Ex H H1 → Dp K H1 v d → tz D (σ.set i (some v)) H1) : tSeq (tAsg te (gName i)) tz D σ H := s_asgD (D := { D with nx := tz D }) h k
theorem s_retD (h : EvD K te σ H d) (k : ∀ v H1, Ex H H1 → Dp K H1 v d → D.rt v H1) : tRet te D σ H := h H (Ex.refl H) _ fun v H1 e hv => k v H1 e hv
theorem s_dropD (h : EvD K te σ H d) (k : ∀ H1, Ex H H1 → D.nx σ H1) : tDrop te D σ H := h H (Ex.refl H) _ fun _ H1 e _ => k H1 e
theorem q_dropD (h : EvD K te σ H d) (k : ∀ H1, Ex H H1 → tz D σ H1) : tSeq (tDrop te) tz D σ H := s_dropD (D := { D with nx := tz D }) h k
theorem q_asgLD {i : Nat} (h : EvLD K te σ H ds) (k : ∀ p vs H1, H p = none → Ex H H1 → H1 p = some (.lst vs) → DpAll K H1 vs ds → tz D (σ.set i (some (.ref p))) H1) : tSeq (tAsg te (gName i)) tz D σ H := h H (Ex.refl H) _ fun p vs H1 a b c d => k p vs H1 a b c d
theorem s_retLD (h : EvLD K te σ H ds) (k : ∀ p vs H1, H p = none → Ex H H1 → H1 p = some (.lst vs) → DpAll K H1 vs ds → D.rt (.ref p) H1) : tRet te D σ H := h H (Ex.refl H) _ fun p vs H1 a b c d => k p vs H1 a b c d
/-- xs.append(e) -/
theorem s_appD {l : Addr} {xs : List V} (hl : H l = some (.lst xs)) (ha : Ev ta σ H (.ref l)) (h : EvD K te σ H d) (hz : xs.length < 100000) (k : ∀ v H1, Ex H H1 → Dp K H1 v d → D.nx σ (upd H1 l (.lst (xs ++ [v])))) :
    tDrop (tBM K "list" rAppend ta (tCons te tNil)) D σ H := ha H (Ex.refl H) _ fun H1 e1 =>
  ⟨Or.inl ⟨rfl, xs, sq_of (e1 l _ hl)⟩, h H1 e1 _ fun v H2 e2 hv => ⟨l, xs, v, rfl, rfl, e2 l _ (e1 l _ hl), sz_lt hz, k v H2 (e1.trans e2) hv⟩⟩
theorem q_appD {l : Addr} {xs : List V} (hl : H l = some (.lst xs)) (ha : Ev ta σ H (.ref l)) (h : EvD K te σ H d) (hz : xs.length < 100000) (k : ∀ v H1, Ex H H1 → Dp K H1 v d → tz D σ (upd H1 l (.lst (xs ++ [v])))) :
    tSeq (tDrop (tBM K "list" rAppend ta (tCons te tNil))) tz D σ H := s_appD (D := { D with nx := tz D }) hl ha h hz k
end

/-! ### isinstance -/
section
variable {K : PySem.W.Frag} {H : Hp} {v : V} {ds : List PyData}
theorem tyx_tup (h : Dp K H v (.tuple ds)) : TyX K H v (.type "tuple") := by
  obtain ⟨p, xs, rfl, h1, _⟩ := h.tup_inv
  rcases h1 with (h1 | ⟨o, h1⟩) | ⟨o, its, n, h1, h2, _⟩
  · exact .base (.tup h1)
  · exact .fTuple h1
  · exact .kTuple h1 h2
theorem tyx_lst (h : Dp K H v (.list ds)) : TyX K H v (.type "list") := by
  obtain ⟨p, xs, rfl, h1, _⟩ := h.lst_inv
  rcases h1 with (h1 | ⟨o, h1⟩) | ⟨o, its, n, h1, h2, _⟩
  · exact .base (.lst h1)
  · exact .base (.frz h1)
  · exact .kList h1 h2
theorem tyx_int {i : Int} : TyX K H (.int i) (.type "int") := .base (.int i)
theorem tyx_none : TyX K H .non (.type "NoneType") := .base .non
end
def EvTy (K : PySem.W.Frag) (te : TE) (σ : L2.St) (H : Hp) (t : Value) : Prop := ∀ H1, Ex H H1 → ∀ Q : VK, (∀ v H2, Ex H1 H2 → TyX K H2 v t → Q v H2) → te σ H1 Q
section
variable {K : PySem.W.Frag} {H : Hp} {σ : L2.St} {v c : V} {ds : List PyData} {te ta : TE} {t u : Value} {b : Bool}
theorem ety_tup (h : EvD K te σ H (.tuple ds)) : EvTy K te σ H (.type "tuple") := fun H1 x Q q => h H1 x _ fun v H2 x2 hv => q v H2 x2 (tyx_tup hv)
theorem ety_lst (h : EvD K te σ H (.list ds)) : EvTy K te σ H (.type "list") := fun H1 x Q q => h H1 x _ fun v H2 x2 hv => q v H2 x2 (tyx_lst hv)
theorem ety_int {i : Int} (h : Ev te σ H (.int i)) : EvTy K te σ H (.type "int") := fun H1 x Q q => h H1 x _ fun H2 x2 => q _ H2 x2 tyx_int
/-- isinstance(x, c) -/
theorem ev_isi (ha : EvTy K ta σ H t) (k : ClsV c u) (e : PySem.W.kitOne K t u = some b) : Ev (tCB (rIsi K) (tCons ta (tCons (tC c) tNil))) σ H (.bl b) := fun H1 x1 Q q =>
  ha H1 x1 _ fun v H2 x2 hv => ⟨v, c, t, u, b, rfl, k, hv, e, q H2 x2⟩
end
end Fk
end
section
set_option Elab.async false
set_option linter.all false
set_option maxRecDepth 100000
set_option maxHeartbeats 1000000
namespace Fk
open PySem PySem.Spec PyProof.Rows L2 Evl
section
variable {K : PySem.W.Frag} {σ : L2.St} {H H' : Hp} {ta tb te tx tl : TE} {t u tt : TT} {v : V} {d e f : PyData} {ds es : List PyData} {D : Ends} {tz tu tw : TS}
theorem ed_of (h : Ev te σ H v) (hd : Dp K H v d) : EvD K te σ H d := fun H1 x Q q => h H1 x Q fun H2 x2 => q v H2 x2 (hd.mono (x.trans x2))
/-- a target of two names, of three -/
theorem gtup2 {i j : Nat} {Q : L2.St → Hp → Prop} (h : Dp K H v (.tuple [d, e])) (k : ∀ x y, Dp K H x d → Dp K H y e → Q ((σ.set i (some x)).set j (some y)) H) : gTup K 2 (gCons (gName i) (gCons (gName j) gNil)) v σ H Q := by
  obtain ⟨p, xs, rfl, h1, h2⟩ := h.tup_inv
  cases h2 with
  | cons a1 h2 =>
    cases h2 with
    | cons a2 h2 =>
      cases h2
      exact ⟨p, _, rfl, h1, rfl, _, _, rfl, _, _, rfl, rfl, k _ _ a1 a2⟩
theorem gtup3 {i j l : Nat} {Q : L2.St → Hp → Prop} (h : Dp K H v (.tuple [d, e, f])) (k : ∀ x y z, Dp K H x d → Dp K H y e → Dp K H z f → Q (((σ.set i (some x)).set j (some y)).set l (some z)) H) :
    gTup K 3 (gCons (gName i) (gCons (gName j) (gCons (gName l) gNil))) v σ H Q := by
  obtain ⟨p, xs, rfl, h1, h2⟩ := h.tup_inv
  cases h2 with
  | cons a1 h2 =>
    cases h2 with
    | cons a2 h2 =>
      cases h2 with
      | cons a3 h2 =>
        cases h2
        exact ⟨p, _, rfl, h1, rfl, _, _, rfl, _, _, rfl, _, _, rfl, rfl, k _ _ _ a1 a2 a3⟩
/-- for x in (a list of data) -/
theorem s_forD {g : TG} (h : EvD K tl σ H (.list ds)) (Pv : Nat → L2.St → Hp → Prop) (h0 : ∀ H1, Ex H H1 → Pv 0 σ H1) (hl : ∀ i σ' H', i ≤ ds.length → Pv i σ' H' → Ex H H')
    (hs : ∀ i d v σ' H', ds[i]? = some d → Dp K H' v d → Pv i σ' H' → g v σ' H' fun σ2 H2 => tu { D with nx := fun σ' H' => Pv (i + 1) σ' H', ct := fun σ' H' => Pv (i + 1) σ' H', bk := D.nx } σ2 H2) (hd : ∀ σ' H', Pv ds.length σ' H' → D.nx σ' H')
    (hex : ∀ i σ' H', Pv i σ' H' → True := by intros; trivial) : ∀ a vs, SqL K H a vs → DpAll K H vs ds → Ev tl σ H (.ref a) → tFor (iList K tl) g tu D σ H := fun a vs h1 h2 hev =>
  s_forL hev h1 Pv h0 (fun i σ' H' hi p => ex_l (hl i σ' H' (by rw [← h2.len]; exact hi) p) h1) (fun i x σ' H' hi p => by
    obtain ⟨d, e1, e2⟩ := h2.getV hi
    have lt := (List.getElem?_eq_some_iff.mp e1).1
    exact hs i d x σ' H' e1 (e2.mono (hl i σ' H' (by omega) p)) p) (fun σ' H' p => hd σ' H' (by rw [← h2.len]; exact p))
/-- for .. in a slot that holds a list of data, of which a loop changes nothing -/
theorem s_forV {g : TG} {j : Nat} (hj : σ[j]? = some (some v)) (hv : Dp K H v (.list ds)) (Pv : Nat → L2.St → Hp → Prop) (h0 : ∀ H1, Ex H H1 → Pv 0 σ H1) (hl : ∀ i σ' H', Pv i σ' H' → Ex H H')
    (hs : ∀ i d v σ' H', ds[i]? = some d → Dp K H' v d → Pv i σ' H' → g v σ' H' fun σ2 H2 => tu { D with nx := Pv (i + 1), ct := Pv (i + 1), bk := D.nx } σ2 H2) (hd : ∀ σ' H', Pv ds.length σ' H' → D.nx σ' H') : tFor (iList K (tVar j)) g tu D σ H := by
  obtain ⟨a, vs, rfl, h1, h2⟩ := hv.lst_inv
  exact s_forD (ed_var hj hv) Pv h0 (fun i σ' H' _ p => hl i σ' H' p) hs hd (fun _ _ _ _ => trivial) a vs h1 h2 (ev_var hj)
theorem q_forV {g : TG} {j : Nat} (hj : σ[j]? = some (some v)) (hv : Dp K H v (.list ds)) (Pv : Nat → L2.St → Hp → Prop) (h0 : ∀ H1, Ex H H1 → Pv 0 σ H1) (hl : ∀ i σ' H', Pv i σ' H' → Ex H H')
    (hs : ∀ i d v σ' H', ds[i]? = some d → Dp K H' v d → Pv i σ' H' → g v σ' H' fun σ2 H2 => tu { D with nx := Pv (i + 1), ct := Pv (i + 1), bk := tz D } σ2 H2) (hd : ∀ σ' H', Pv ds.length σ' H' → tz D σ' H') : tSeq (tFor (iList K (tVar j)) g tu) tz D σ H := s_forV (D := { D with nx := tz D }) hj hv Pv h0 hl hs hd

/-- the same, what is walked told by a lesser heap -/
theorem s_forW {g : TG} {j : Nat} {Hb : Hp} (hj : σ[j]? = some (some v)) (hv : Dp K Hb v (.list ds)) (hb : Ex Hb H) (Pv : Nat → L2.St → Hp → Prop) (h0 : ∀ H1, Ex H H1 → Pv 0 σ H1) (hl : ∀ i σ' H', Pv i σ' H' → Ex Hb H')
    (hs : ∀ i d v σ' H', ds[i]? = some d → Dp K H' v d → Pv i σ' H' → g v σ' H' fun σ2 H2 => tu { D with nx := Pv (i + 1), ct := Pv (i + 1), bk := D.nx } σ2 H2) (hd : ∀ σ' H', Pv ds.length σ' H' → D.nx σ' H') : tFor (iList K (tVar j)) g tu D σ H := by
  obtain ⟨a, vs, rfl, h1, h2⟩ := hv.lst_inv
  exact s_forL (ev_var hj) (ex_l hb h1) Pv h0 (fun i σ' H' _ p => ex_l (hl i σ' H' p) h1) (fun i x σ' H' hi p => by
    obtain ⟨d, e1, e2⟩ := h2.getV hi
    exact hs i d x σ' H' e1 (e2.mono (hl i σ' H' p)) p) (fun σ' H' p => hd σ' H' (by rw [← h2.len]; exact p))
theorem q_forW {g : TG} {j : Nat} {Hb : Hp} (hj : σ[j]? = some (some v)) (hv : Dp K Hb v (.list ds)) (hb : Ex Hb H) (Pv : Nat → L2.St → Hp → Prop) (h0 : ∀ H1, Ex H H1 → Pv 0 σ H1) (hl : ∀ i σ' H', Pv i σ' H' → Ex Hb H')
    (hs : ∀ i d v σ' H', ds[i]? = some d → Dp K H' v d → Pv i σ' H' → g v σ' H' fun σ2 H2 => tu { D with nx := Pv (i + 1), ct := Pv (i + 1), bk := tz D } σ2 H2) (hd : ∀ σ' H', Pv ds.length σ' H' → tz D σ' H') : tSeq (tFor (iList K (tVar j)) g tu) tz D σ H := s_forW (D := { D with nx := tz D }) hj hv hb Pv h0 hl hs hd
/-! ### comprehensions over data -/
/-- the words between the turns -/
def Cd (K : PySem.W.Frag) (H : Hp) (Dl : Addr) (out : Nat → List PyData) (i : Nat) (H' : Hp) : Prop := H Dl = none ∧ Ex H H' ∧ ∃ acc, H' Dl = some (.lst acc) ∧ DpAll K (hid Dl H') acc (out i)
theorem filter_take {α : Type} {xs : List α} {i : Nat} {x : α} (h : xs[i]? = some x) (f : α → Bool) : (xs.take (i + 1)).filter f = (xs.take i).filter f ++ (if f x = true then [x] else []) := by
  rw [List.take_add_one, h, List.filter_append]
  congr 1
  cases hx : f x <;> simp [hx]
theorem et_yes : EvT tYes σ H true := fun H1 _ Q q => q H1 (Ex.refl H1)
/-- elements without lists -/
theorem eld_lcT {α : Type} {xs : List α} (a : α → PyData) {j : Nat} {vs : List Nat} {n : Nat} (p : α → Bool) (g : α → PyData) (h : EvD K tl σ H (.list (xs.map a))) (hz : xs.length ≤ 40000) (hw : ∀ x, wipe ((wipe σ vs).set j (some x)) vs = wipe σ vs) (hn : ∀ x ∈ xs, p x = true → nlD n (g x) = true)
    (hb : ∀ x ∈ xs, ∀ v H1, Ex H H1 → Dp K H1 v (a x) → EvT tt ((wipe σ vs).set j (some v)) H1 (p x) ∧ (p x = true → EvD K te ((wipe σ vs).set j (some v)) H1 (g x))) : EvLD K (tLc (iList K tl) (gName j) tt te vs) σ H ((xs.filter p).map g) := fun H0 e Q q =>
  h H0 e _ fun v H1 e1 hv => by
    obtain ⟨b, ws, rfl, hs, hds⟩ := hv.lst_inv
    have hlen : ws.length = xs.length := by rw [hds.len, List.length_map]
    refine ⟨b, rfl, ⟨ws, hs⟩, fun Dl hD => lc_list (xs := ws) (Cd K H1 Dl fun i => ((xs.take i).filter p).map g) ⟨hD, Ex.new hD, [], upd_same, .nil⟩ (fun i H' _ c => ex_l c.2.1 hs) (fun i x H' hx c => ?_) fun H' c => ?_⟩
    · refine ⟨hw x, ?_⟩
      obtain ⟨d, hd1, hd2⟩ := hds.getV hx
      rw [List.getElem?_map] at hd1
      cases hy : xs[i]? with
      | none => rw [hy] at hd1; cases hd1
      | some y =>
        rw [hy] at hd1
        cases (Option.some.inj hd1)
        have hm := List.mem_of_getElem? hy
        have hi := (List.getElem?_eq_some_iff.mp hy).1
        obtain ⟨c1, c2, acc, c3, c4⟩ := c
        obtain ⟨ht, he⟩ := hb y hm x H' ((e.trans e1).trans c2) (hd2.mono c2)
        refine ht H' (Ex.refl H') _ fun H3 e3 => ?_
        have hout : ((xs.take (i + 1)).filter p).map g = ((xs.take i).filter p).map g ++ (if p y = true then [g y] else []) := by
          rw [filter_take hy, List.map_append]
          congr 1
          split <;> rfl
        cases hp : p y with
        | true =>
          refine he hp H3 e3 _ fun z H4 e4 hz4 => ?_
          have c34 := e4 _ _ (e3 _ _ c3)
          refine ⟨acc, c34, sz_lt ?_, c1, Ex.mut ((c2.trans e3).trans e4) c1, _, upd_same, ?_⟩
          · rw [c4.len]
            have l1 := List.length_filter_le p (xs.take i)
            rw [List.length_map]
            have l2 := List.length_take_le i xs
            omega
          · show DpAll K (hid Dl (upd H4 Dl _)) _ (((xs.take (i + 1)).filter p).map g)
            rw [hid_upd, hout, if_pos hp]
            exact (c4.mono (hid_mono (e3.trans e4))).app (.one (hz4.hid c34 (hn y hm hp)))
        | false =>
          refine ⟨c1, c2.trans e3, acc, e3 _ _ c3, ?_⟩
          show DpAll K _ _ (((xs.take (i + 1)).filter p).map g)
          rw [hout, if_neg (by rw [hp]; decide), List.append_nil]
          exact c4.mono (hid_mono e3)
    · obtain ⟨c1, c2, acc, c3, c4⟩ := c
      simp only [hlen, List.take_length] at c4
      exact q Dl acc H' (fresh_back e1 c1) (e1.trans c2) c3 (c4.mono hid_ex)
/-- each element a new list, of elements without lists -/
theorem eld_lcN {α : Type} {xs : List α} (a : α → PyData) {j : Nat} {vs : List Nat} {n : Nat} (g : α → List PyData) (h : EvD K tl σ H (.list (xs.map a))) (hz : xs.length ≤ 40000) (hw : ∀ x, wipe ((wipe σ vs).set j (some x)) vs = wipe σ vs) (hn : ∀ x ∈ xs, (g x).all (nlD n) = true)
    (hb : ∀ x ∈ xs, ∀ v H1, Ex H H1 → Dp K H1 v (a x) → EvLD K te ((wipe σ vs).set j (some v)) H1 (g x)) : EvLD K (tLc (iList K tl) (gName j) tYes te vs) σ H (xs.map fun x => .list (g x)) := fun H0 e Q q =>
  h H0 e _ fun v H1 e1 hv => by
    obtain ⟨b, ws, rfl, hs, hds⟩ := hv.lst_inv
    have hlen : ws.length = xs.length := by rw [hds.len, List.length_map]
    refine ⟨b, rfl, ⟨ws, hs⟩, fun Dl hD => lc_list (xs := ws) (Cd K H1 Dl fun i => (xs.take i).map fun x => .list (g x)) ⟨hD, Ex.new hD, [], upd_same, .nil⟩ (fun i H' _ c => ex_l c.2.1 hs) (fun i x H' hx c => ?_) fun H' c => ?_⟩
    · refine ⟨hw x, ?_⟩
      obtain ⟨d, hd1, hd2⟩ := hds.getV hx
      rw [List.getElem?_map] at hd1
      cases hy : xs[i]? with
      | none => rw [hy] at hd1; cases hd1
      | some y =>
        rw [hy] at hd1
        cases (Option.some.inj hd1)
        have hm := List.mem_of_getElem? hy
        have hi := (List.getElem?_eq_some_iff.mp hy).1
        obtain ⟨c1, c2, acc, c3, c4⟩ := c
        refine et_yes H' (Ex.refl H') _ fun H3 e3 => ?_
        refine hb y hm x H' ((e.trans e1).trans c2) (hd2.mono c2) H3 e3 _ fun z ys H4 hz0 e4' hz4 hzs => ?_
        have e4 := e3.trans e4'
        have c34 := e4 _ _ c3
        have hzD : z ≠ Dl := fun k => by
          rw [k, e3 _ _ c3] at hz0
          cases hz0
        have hout : (xs.take (i + 1)).map (fun x => PyData.list (g x)) = (xs.take i).map (fun x => PyData.list (g x)) ++ [.list (g y)] := by
          rw [List.take_add_one, hy, List.map_append]
          rfl
        refine ⟨acc, c34, sz_lt ?_, c1, Ex.mut (c2.trans e4) c1, acc ++ [.ref z], upd_same, ?_⟩
        · rw [c4.len, List.length_map]
          have l2 := List.length_take_le i xs
          omega
        · show DpAll K (hid Dl (upd H4 Dl _)) _ ((xs.take (i + 1)).map fun x => .list (g x))
          rw [hid_upd, hout]
          refine (DpAll.mono (hid_mono e4) c4).app (.one (.lst (SqL.of (by rw [hid_ne hzD]; exact hz4)) (dps_keepT (sqt_hid c34) n (g y) ys (hn y hm) hzs)))
    · obtain ⟨c1, c2, acc, c3, c4⟩ := c
      simp only [hlen, List.take_length] at c4
      exact q Dl acc H' (fresh_back e1 c1) (e1.trans c2) c3 (c4.mono hid_ex)
/-- y = [..] -/
theorem dps_bls : ∀ {bs : List Bool} {vs : List V}, DpAll K H vs (bs.map PyData.bool) → vs = bs.map V.bl
  | [], _, h => by cases h; rfl
  | _ :: _, _, h => by
    cases h with
    | cons h1 h2 =>
      cases h1
      rw [List.map_cons, ← dps_bls h2]
theorem ev_all {bs : List Bool} (h : EvLD K te σ H (bs.map PyData.bool)) : Ev (tCB (rAll K) (tCons te tNil)) σ H (.bl (bs.all id)) := fun H1 x Q q =>
  h H1 x _ fun p vs H2 hp x2 h2 h3 => ⟨p, bs, rfl, by rw [← dps_bls h3]; exact SqL.of h2, q H2 x2⟩
theorem ev_any {bs : List Bool} (h : EvLD K te σ H (bs.map PyData.bool)) : Ev (tCB (rAny K) (tCons te tNil)) σ H (.bl (bs.any id)) := fun H1 x Q q =>
  h H1 x _ fun p vs H2 hp x2 h2 h3 => ⟨p, bs, rfl, by rw [← dps_bls h3]; exact SqL.of h2, q H2 x2⟩
/-- a op b op' c of ints -/
theorem ev_chain {i j k : Int} {r r' : R2} {b c : Bool} (ha : Ev ta σ H (.int i)) (hb : Ev tb σ H (.int j)) (hc : b = true → Ev te σ H (.int k)) (h1 : RV r (.int i) (.int j) H (.bl b)) (h2 : RV r' (.int j) (.int k) H (.bl c)) : Ev (tChain r r' ta tb te) σ H (.bl (b && c)) := fun H1 x1 Q q =>
  ha H1 x1 _ fun H2 x2 => hb H2 (x1.trans x2) _ fun H3 x3 => h1 H3 ((x1.trans x2).trans x3) _ fun H4 x4 => ⟨b, rfl, by
    cases b with
    | true =>
      rw [if_pos rfl]
      exact hc rfl H4 (((x1.trans x2).trans x3).trans x4) _ fun H5 x5 => h2 H5 ((((x1.trans x2).trans x3).trans x4).trans x5) _ fun H6 x6 => q H6 ((((x2.trans x3).trans x4).trans x5).trans x6)
    | false =>
      rw [if_neg (by decide)]
      exact q H4 ((x2.trans x3).trans x4)⟩
theorem et_chain {i j k : Int} {r r' : R2} {b c : Bool} (ha : Ev ta σ H (.int i)) (hb : Ev tb σ H (.int j)) (hc : b = true → Ev te σ H (.int k)) (h1 : RV r (.int i) (.int j) H (.bl b)) (h2 : RV r' (.int j) (.int k) H (.bl c)) : EvT (tTest (tChain r r' ta tb te)) σ H (b && c) := et_test (ev_chain ha hb hc h1 h2)
end
end Fk
end
section
set_option Elab.async false
set_option linter.all false
set_option maxRecDepth 100000
set_option maxHeartbeats 1000000
namespace Fk
open PySem PySem.Spec PyProof.Rows L2 Evl
/-! ### the text by places -/
def top (i : Nat) : Stmt := PySem.Challenge.pw_fairknife_k08_whole_halves.main.body.getD i (.Pass ⟨0, 0, 0, 0⟩)
abbrev FnAt (K : PySem.W.Frag) (mg : Str → Option Value) (x : Str) (st : Stmt) (ps : List Str) : Prop := ∃ f fd, mg x = some (.ref f) ∧ Fun K x x st f fd ∧ Binds K fd ps []
abbrev Has (P : Program) (w : World) (K : PySem.W.Frag) (mg : Str → Option Value) (base : Heap) (x : Str) (k : Nat) (ps : List Str) (sp : Sp) : Prop :=
  ∃ f fd, mg x = some (.ref f) ∧ PySem.W.keepIn K (.ref f) = true ∧ Binds K fd ps [] ∧ FnOk P w K mg base CX0 k f fd ps sp
section
variable {P : Program} {w : World} {K : PySem.W.Frag} {mg : Str → Option Value} {base : Heap} {x : Str} {k : Nat} {ps : List Str} {sp : Sp} {st : Stmt}
theorem FnAt.has (A : FnAt K mg x st ps) (h : ∀ f fd, Fun K x x st f fd → FnOk P w K mg base CX0 k f fd ps sp) : Has P w K mg base x k ps sp := by
  obtain ⟨f, fd, h1, h2, h3⟩ := A
  exact ⟨f, fd, h1, h2.kp, h3, h f fd h2⟩
theorem Has.mono {j : Nat} (G : Has P w K mg base x j ps sp) (h : j ≤ k) : Has P w K mg base x k ps sp := by
  obtain ⟨f, fd, h1, h2, h3, h4⟩ := G
  exact ⟨f, fd, h1, h2, h3, h4.mono h⟩
end
theorem pe_callH {X : Cx} {x : Str} {k : Nat} {ps : List Str} {sp : Sp} {p pos : Pos} {e : Expr} {es : List Expr} {t : TA} (G : Has X.prog X.w X.K X.mg X.base x k ps sp) (hr : Room k X.A) (ha : PA X (e :: es) t) (hg : Gl X x := by rfl)
    (hdb : (x == ("__debug__" : Str)) = false := by decide) (he : starEach (e :: es) X.env = (false, eval e X.env) :: starEach es X.env := by rfl) (hpl : (backTo pos (starEach es X.env)).any (·.1) = false := by rfl) :
    PE X (.Call (.Name x p) (e :: es) [] pos) (tCall sp [] E0 t) := by
  obtain ⟨f, fd, h1, h2, h3, h4⟩ := G
  exact pe_call h4 hr hg h1 h2 h3 .nil pass0 ha hdb he hpl
theorem pa2 {X : Cx} {a b : Expr} {ta tb : TE} (ha : PE X a ta) (hb : PE X b tb) (h1 : starEach [a, b] X.env = (false, eval a X.env) :: starEach [b] X.env := by rfl) (h2 : starEach [b] X.env = (false, eval b X.env) :: starEach [] X.env := by rfl) : PA X [a, b] (tCons ta (tCons tb tNil)) := pa_cons ha (pa_cons hb pa_nil h2) h1
theorem pa1 {X : Cx} {a : Expr} {ta : TE} (ha : PE X a ta) (h1 : starEach [a] X.env = (false, eval a X.env) :: starEach [] X.env := by rfl) : PA X [a] (tCons ta tNil) := pa_cons ha pa_nil h1
/-- for a pure def: its promise is asked of data -/
theorem okP {P : Program} {w : World} {K : PySem.W.Frag} {mg : Str → Option Value} {base : Heap} {x qual : Str} {st : Stmt} {f : Addr} {fd : FuncData} {N ps : List Str} {k : Nat} {R : List PyData → PyData → Prop} (F : Fun K x qual st f fd) (S : FnScope N ps (defScope st))
    (len : ∀ ds d, R ds d → ds.length = ps.length)
    (hbody : ∀ (cdv : Value) (A : Around) (outer : List Env) (s : Shared) (H : Hp) (vs : List V) (Q : VK) (E : XK) (ds : List PyData) (d : PyData), Room k (A.deeper (envOfC qual (defScope st) s.heap.objs.size f cdv)) → DpAll K H vs ds → R ds d →
      (∀ v H', Ex H H' → Dp K H' v d → Q v H') → ∃ t, PSs (cxOf CX0 P w K mg base N qual (defScope st) f cdv A outer s H E).nox (defBody st) t ∧ t { nx := fun _ H' => Q .non H', rt := Q } (start N vs) H) : FnOk P w K mg base CX0 (k + 1) f fd ps (spP K R) :=
  F.ok S (fun vs H Q E h => by
    obtain ⟨ds, d, h1, h2, _⟩ := h
    rw [h1.len]
    exact len ds d h2) fun cdv A outer s H vs Q E hr h => by
    obtain ⟨ds, d, h1, h2, h3⟩ := h
    exact hbody cdv A outer s H vs Q E ds d hr h1 h2 h3
/-! ### rules whose written part is told (within a comprehension) -/
section
variable {X : Cx} {a b e : Expr} {ta tb : TE} {pos : Pos}
theorem ixk (K : PySem.W.Frag) (ha : PE X a ta) (hb : PE X b tb) (hK : X.K = K := by rfl) (hs : PlainIx b := by exact fun _ _ => rfl) : PE X (.Subscript a b pos) (tOp (rIxT K) ta tb) := by
  subst hK
  exact pe_ix ix_tup ha hb hs
theorem ixlk (K : PySem.W.Frag) (ha : PE X a ta) (hb : PE X b tb) (hK : X.K = K := by rfl) (hs : PlainIx b := by exact fun _ _ => rfl) : PE X (.Subscript a b pos) (tOp (rIxL K) ta tb) := by
  subst hK
  exact pe_ix ix_list ha hb hs
theorem lenk (K : PySem.W.Frag) {p : Pos} (ml : X.mg "len" = none) (ha : PE X a ta) (hK : X.K = K := by rfl) (hg : Gl X "len" := by rfl) (h1 : starEach [a] X.env = (false, eval a X.env) :: starEach [] X.env := by rfl) (hpl : (backTo pos (starEach [] X.env)).any (·.1) = false := by rfl) :
    PE X (.Call (.Name "len" p) [a] [] pos) (tCB (rLenS K) (tCons ta tNil)) := by
  subst hK
  exact pe_callB call_len_seq hg ml PySem.boot_len (pa_cons ha pa_nil h1) (by decide) (by decide) h1 hpl
theorem eqk (K : PySem.W.Frag) {k : Nat} (hr : Room k X.A) (ha : PE X a ta) (hb : PE X b tb) (hK : X.K = K := by rfl) : PE X (.Compare a [.Eq] [b] pos) (tOp (rEqD K) ta tb) := by
  subst hK
  exact pe_cmpR (op_eqD hr.units) ha hb (nomark _)
theorem eqkT (K : PySem.W.Frag) {k : Nat} (hr : Room k X.A) (ha : PE X a ta) (hb : PE X b tb) (hK : X.K = K := by rfl) : PT X (.Compare a [.Eq] [b] pos) (tTest (tOp (rEqD K) ta tb)) := by
  subst hK
  exact pt_cmpR (op_eqD hr.units) ha hb (nomark _)
end
/-! ### fractions as data -/
def frD (q : Rat) : PyData := .tuple [.int q.num, .int (q.den : Int)]
def pr (a b : Int) : PyData := .tuple [.int a, .int b]
theorem frD_pr (q : Rat) : frD q = pr q.num q.den := rfl
theorem frD_ok (q : Rat) : okD 1 (frD q) = true := rfl
theorem frD_nl (q : Rat) : nlD 1 (frD q) = true := rfl
theorem frD_inj {q r : Rat} : frD q = frD r ↔ q = r := by
  constructor
  · intro h
    have h : PyData.tuple [.int q.num, .int (q.den : Int)] = PyData.tuple [.int r.num, .int (r.den : Int)] := h
    simp only [PyData.tuple.injEq, List.cons.injEq, PyData.int.injEq, and_true] at h
    exact Rat.ext h.1 (by omega)
  · intro h
    rw [h]
theorem den_pos (q : Rat) : (0 : Int) < (q.den : Int) := by have := q.den_nz; omega
end Fk
end
section
set_option linter.all false
/-! Tastes: what is good of them, their rows, sizes and grids. -/
namespace Fk
def rowsOf : Rat → Steps → List (Rat × Rat × Nat)
  | _, [] => []
  | b, (l, w) :: r => (b, l, w) :: rowsOf l r
theorem rowsOf_len : ∀ (T : Steps) (b : Rat), (rowsOf b T).length = T.length
  | [], _ => rfl
  | (l, w) :: r, b => by
    show (rowsOf l r).length + 1 = r.length + 1
    rw [rowsOf_len r l]
/-- where the i-th step begins -/
def begs (b : Rat) (T : Steps) : List Rat := b :: T.map (·.1)
theorem rowsOf_at : ∀ (T : Steps) (b : Rat) (i : Nat) (l : Rat) (w : Nat), T[i]? = some (l, w) → ∃ c, (begs b T)[i]? = some c ∧ (rowsOf b T)[i]? = some (c, l, w)
  | [], _, _, _, _, h => by simp at h
  | (l', w') :: r, b, 0, l, w, h => by
    cases (Option.some.inj h)
    exact ⟨b, rfl, rfl⟩
  | (l', w') :: r, b, i + 1, l, w, h => by
    obtain ⟨c, h1, h2⟩ := rowsOf_at r l' i l w (by simpa using h)
    exact ⟨c, by simpa [begs] using h1, by simpa [rowsOf] using h2⟩
theorem begs_next {T : Steps} {b : Rat} {i : Nat} {l : Rat} {w : Nat} (h : T[i]? = some (l, w)) : (begs b T)[i + 1]? = some l := by
  unfold begs
  rw [List.getElem?_cons_succ, List.getElem?_map, h]
  rfl
theorem Val.at : ∀ {T : Steps} {b : Rat} {i : Nat} {l : Rat} {w : Nat}, Val b T → T[i]? = some (l, w) → ∃ c, (begs b T)[i]? = some c ∧ (rowsOf b T)[i]? = some (c, l, w) ∧ b ≤ c ∧ c < l ∧ l ≤ 1 ∧ 1 ≤ w ∧ w ≤ 1000
  | [], _, _, _, _, _, h => by simp at h
  | (l', w') :: r, b, 0, l, w, ⟨h1, h2, h3, h4⟩, h => by
    cases (Option.some.inj h)
    exact ⟨b, rfl, rfl, by grind, h1, Val.le h4, h2, h3⟩
  | (l', w') :: r, b, i + 1, l, w, ⟨h1, h2, h3, h4⟩, h => by
    obtain ⟨c, g1, g2, g3, g4⟩ := Val.at h4 (i := i) (l := l) (w := w) (by simpa using h)
    exact ⟨c, by simpa [begs] using g1, by simpa [rowsOf] using g2, by grind, g4⟩
theorem Val.last : ∀ {T : Steps} {b : Rat}, Val b T → (begs b T)[T.length]? = some 1
  | [], b, h => by
    have h : b = 1 := h
    rw [h]
    rfl
  | (l, w) :: r, b, ⟨h1, _, _, h3⟩ => by
    have := Val.last h3
    simpa [begs] using this
/-- a sum over rows -/
def areaR (rows : List (Rat × Rat × Nat)) (s e : Rat) : Rat := (rows.map fun r => rowA s e r.1 r.2.1 r.2.2).sum
theorem areaR_nil (s e : Rat) : areaR [] s e = 0 := rfl
theorem areaR_cons (r : Rat × Rat × Nat) (rows : List (Rat × Rat × Nat)) (s e : Rat) : areaR (r :: rows) s e = rowA s e r.1 r.2.1 r.2.2 + areaR rows s e := by
  unfold areaR
  rw [List.map_cons, List.sum_cons]
theorem areaR_rows : ∀ (T : Steps) (b s e : Rat), areaR (rowsOf b T) s e = areaS b T s e
  | [], _, _, _ => rfl
  | (l, w) :: r, b, s, e => by
    show areaR ((b, l, w) :: rowsOf l r) s e = rowA s e b l w + areaS l r s e
    rw [areaR_cons, areaR_rows r l s e]
theorem areaR_drop {rows : List (Rat × Rat × Nat)} {i : Nat} {r : Rat × Rat × Nat} (h : rows[i]? = some r) (s e : Rat) : areaR (rows.drop i) s e = rowA s e r.1 r.2.1 r.2.2 + areaR (rows.drop (i + 1)) s e := by
  obtain ⟨hi, rfl⟩ := List.getElem?_eq_some_iff.mp h
  rw [List.drop_eq_getElem_cons hi, areaR_cons]
/-- a taste that the program takes -/
structure Good (T : Steps) : Prop where
  val : Val 0 T
  one : 1 ≤ T.length
  most : T.length ≤ 8
  grid : ∃ P : Nat, 0 < P ∧ P ≤ 1000 ∧ ∀ x ∈ T, Gr P x.1
def tot (T : Steps) : Rat := areaS 0 T 0 1
theorem Good.tot_pos {T : Steps} (g : Good T) : 0 < tot T := areaS_pos T 0 0 1 g.val (by grind) (by grind) (by grind) (by grind)
theorem w1000 {w : Nat} (h : w ≤ 1000) : (w : Rat) ≤ 1000 := by
  have := Rat.natCast_le_natCast.mpr h
  simpa using this
/-- what a row is worth is at most its weight -/
theorem rowA_le {s e b l : Rat} {w : Nat} (hb : 0 ≤ b) (hl : l ≤ 1) (hw : w ≤ 1000) : rowA s e b l w ≤ 1000 := by
  unfold rowA
  split
  · have h1 : (0 : Rat) ≤ (w : Rat) := Rat.natCast_nonneg
    have h2 : cutHigh l e - cutLow b s ≤ 1 := by
      unfold cutHigh cutLow
      grind
    have h3 := Rat.mul_le_mul_of_nonneg_left h2 h1
    have h4 := w1000 hw
    grind
  · grind
theorem cutLow_or (b s : Rat) : cutLow b s = b ∨ cutLow b s = s := by unfold cutLow; grind
theorem cutHigh_or (b s : Rat) : cutHigh b s = b ∨ cutHigh b s = s := by unfold cutHigh; grind
theorem Gr.low {G : Nat} {b s : Rat} (h : Gr G b) (k : Gr G s) : Gr G (cutLow b s) := by
  rcases cutLow_or b s with e | e <;> rw [e] <;> assumption
theorem Gr.high {G : Nat} {b s : Rat} (h : Gr G b) (k : Gr G s) : Gr G (cutHigh b s) := by
  rcases cutHigh_or b s with e | e <;> rw [e] <;> assumption
theorem Gr.row {G : Nat} {s e b l : Rat} {w : Nat} (hs : Gr G s) (he : Gr G e) (hb : Gr G b) (hl : Gr G l) : Gr G (rowA s e b l w) := by
  unfold rowA
  split
  · exact ((hl.high he).sub (hb.low hs)).nmul w
  · exact Gr.zero G
theorem begs_gr {G : Nat} {T : Steps} (h : ∀ x ∈ T, Gr G x.1) {i : Nat} {c : Rat} (hc : (begs 0 T)[i]? = some c) : Gr G c := by
  have m := List.mem_of_getElem? hc
  unfold begs at m
  rcases List.mem_cons.mp m with rfl | m
  · exact Gr.zero G
  · obtain ⟨x, hx, rfl⟩ := List.mem_map.mp m
    exact h x hx
theorem areaS_gr {G : Nat} : ∀ (T : Steps) (b s e : Rat), (∀ x ∈ T, Gr G x.1) → Gr G b → Gr G s → Gr G e → Gr G (areaS b T s e)
  | [], _, _, _, _, _, _, _ => Gr.zero G
  | (l, w) :: r, b, s, e, h, hb, hs, he => (Gr.row hs he hb (h (l, w) (List.mem_cons_self ..))).add (areaS_gr r l s e (fun x hx => h x (List.mem_cons_of_mem _ hx)) (h (l, w) (List.mem_cons_self ..)) hs he)
theorem areaS_le : ∀ (T : Steps) (b s e : Rat), Val b T → 0 ≤ b → areaS b T s e ≤ ((1000 * T.length : Nat) : Rat)
  | [], _, _, _, _, _ => by show (0 : Rat) ≤ _; exact Rat.natCast_nonneg
  | (l, w) :: r, b, s, e, ⟨h1, h2, h3, h4⟩, hb => by
    have a := rowA_le (s := s) (e := e) hb (Val.le h4) h3
    have c := areaS_le r l s e h4 (by grind)
    show rowA s e b l w + areaS l r s e ≤ ((1000 * (r.length + 1) : Nat) : Rat)
    rw [Nat.mul_add, Rat.natCast_add]
    have e1 : ((1000 * 1 : Nat) : Rat) = 1000 := rfl
    rw [e1]
    grind
/-- the mark lies on a grid that is finer by a weight -/
theorem mark_gr {G : Nat} : ∀ (T : Steps) (b s left p : Rat), Val b T → (∀ x ∈ T, Gr G x.1) → Gr G b → Gr G s → Gr G left → markS b T s left = some p → ∃ w, 1 ≤ w ∧ w ≤ 1000 ∧ Gr (G * w) p
  | [], _, _, _, _, _, _, _, _, _, h => by cases h
  | (l, w) :: r, b, s, left, p, ⟨h1, h2, h3, h4⟩, hT, hb, hs, hl, h => by
    have gl := hT (l, w) (List.mem_cons_self ..)
    have hr : ∀ x ∈ r, Gr G x.1 := fun x hx => hT x (List.mem_cons_of_mem _ hx)
    have h : (if s < l then if (w : Rat) * (l - cutLow b s) < left then markS l r s (left - (w : Rat) * (l - cutLow b s)) else some (cutLow b s + left / (w : Rat)) else markS l r s left) = some p := h
    split at h
    · split at h
      · exact mark_gr r l s _ p h4 hr gl hs (hl.sub (((gl.sub (hb.low hs))).nmul w)) h
      · cases h
        exact ⟨w, h2, h3, ((hb.low hs).up w).add (hl.divw (by omega))⟩
    · exact mark_gr r l s left p h4 hr gl hs hl h
/-- on a grid, within the cake -/
def On (G : Nat) (s : Rat) : Prop := 0 ≤ s ∧ s ≤ 1 ∧ Gr G s
/-- small, on a grid -/
theorem bdG' {G M : Nat} {q : Rat} (hG : 0 < G) (hG2 : G ≤ 2 ^ 1500) (h : Gr G q) (h0 : 0 ≤ q) (hM : q ≤ (M : Rat)) (hM2 : M + 1 ≤ 2 ^ 64) : Bd 2000 q := by
  refine Gr.bd hG h h0 hM ?_
  refine Nat.lt_of_le_of_lt (Nat.mul_le_mul hM2 hG2) ?_
  rw [← Nat.pow_add]
  exact Nat.pow_lt_pow_right (by decide) (by decide)
theorem bdG {G M : Nat} {q : Rat} (hG : 0 < G) (hG2 : G ≤ 2 ^ 1000) (h : Gr G q) (h0 : 0 ≤ q) (hM : q ≤ (M : Rat)) (hM2 : M + 1 ≤ 2 ^ 64) : Bd 2000 q := bdG' hG (Nat.le_trans hG2 (Nat.pow_le_pow_right (by decide) (by decide))) h h0 hM hM2
theorem pow_w {G w : Nat} (hG2 : G ≤ 2 ^ 1000) (hw : w ≤ 1000) : G * w ≤ 2 ^ 1500 := by
  refine Nat.le_trans (Nat.mul_le_mul hG2 (show w ≤ 2 ^ 10 by omega)) ?_
  rw [← Nat.pow_add]
  exact Nat.pow_le_pow_right (by decide) (by decide)
theorem bd1 {G : Nat} {q : Rat} (hG : 0 < G) (hG2 : G ≤ 2 ^ 1000) (h : Gr G q) (h0 : 0 ≤ q) (hM : q ≤ 1) : Bd 2000 q := bdG (M := 1) hG hG2 h h0 (by simpa using hM) (by decide)
theorem bdn {w : Nat} (h : w ≤ 1000) : Bd 2000 (w : Rat) := by
  have h1 : Sm 10 ((w : Nat) : Int) := Sm.small (by omega)
  have h2 : Sm 10 (((1 : Nat)) : Int) := Sm.small (by decide)
  exact ⟨h1.mono (by decide), h2.mono (by decide)⟩

def markR : List (Rat × Rat × Nat) → Rat → Rat → Option Rat
  | [], _, _ => none
  | (b, l, w) :: r, s, left =>
    if s < l then
      if (w : Rat) * (l - cutLow b s) < left then markR r s (left - (w : Rat) * (l - cutLow b s))
      else some (cutLow b s + left / (w : Rat))
    else markR r s left
theorem markR_rows : ∀ (T : Steps) (b s left : Rat), markR (rowsOf b T) s left = markS b T s left
  | [], _, _, _ => rfl
  | (l, w) :: r, b, s, left => by
    show (if s < l then if (w : Rat) * (l - cutLow b s) < left then markR (rowsOf l r) s (left - (w : Rat) * (l - cutLow b s)) else _ else markR (rowsOf l r) s left) = _
    rw [markR_rows r l s, markR_rows r l s]
    rfl
theorem Good.tot_le {T : Steps} (g : Good T) (s e : Rat) : areaS 0 T s e ≤ ((8000 : Nat) : Rat) := by
  have h := areaS_le T 0 s e g.val (by grind)
  have := Rat.natCast_le_natCast.mpr (show 1000 * T.length ≤ 8000 by have := g.most; omega)
  grind
end Fk
end
section
set_option Elab.async false
set_option linter.all false
set_option maxRecDepth 100000
set_option maxHeartbeats 1000000
namespace Fk
open PySem PySem.Spec PyProof.Rows L2 Evl
/-- arithmetic, from the outside in -/
local macro_rules | `(tactic| walk_at "ev") => `(tactic| repeat' first
  | exact ev_c
  | exact ev_var rfl
  | refine ev_op ?_ ?_ rv_I0
  | refine ev_op ?_ ?_ (rv_I ?_))
section
variable {P : Program} {w : World} {K : PySem.W.Frag} {mg : Str → Option Value} {base : Heap}
theorem s_par {i j : Nat} {ta : TA} {σ : L2.St} {H : Hp} {v w : V} {D : Ends} (h : EvA ta σ H [v, w]) (k : ∀ H1, Ex H H1 → D.nx ((σ.set i (some v)).set j (some w)) H1) : tPar i j ta D σ H := h H (Ex.refl H) _ fun H1 e => ⟨v, w, rfl, k H1 e⟩
/-! ### lowest -/
abbrev sLowest : Stmt := top 10
theorem sc_lowest : FnScope ["a", "b", "one", "other"] ["a", "b"] (defScope sLowest) := ⟨rfl, rfl, rfl, by decide +kernel, rfl, by decide +kernel, by decide +kernel⟩
def R_low : List PyData → PyData → Prop := fun ds d => ∃ a b : Int, ds = [.int a, .int b] ∧ 0 ≤ a ∧ 0 < b ∧ Sm 8000 b ∧ d = frD (Rat.divInt a b)
theorem ok_lowest {f : Addr} {fd : FuncData} (F : Fun K "lowest" "lowest" sLowest f fd) : FnOk P w K mg base CX0 1 f fd ["a", "b"] (spP K R_low) := by
  refine okP F sc_lowest (fun ds d h => by obtain ⟨a, b, rfl, _⟩ := h; rfl) fun cdv A outer s H vs Q E ds d hr hv hR hQ => ?_
  obtain ⟨a, b, rfl, h0, h1, h2, rfl⟩ := hR
  obtain rfl := dps_ints (ns := [a, b]) hv
  refine ⟨_, pss_cons (ps_set (i := 2) sc_lowest.nd rfl (.inl rfl) (pv 0)) (pss_cons (ps_set (i := 3) sc_lowest.nd rfl (.inl rfl) (pv 1))
    (pss_cons (ps_while PassesOwn.never (pt_cmpR op_gt (pv 3) pe_int (nomark _)) (pss_one (ps_par (i := 2) (j := 3) (by rfl) sc_lowest.nd rfl rfl (by decide) rfl rfl (pa2 (pv 3) (pe_op op_modN (pv 2) (pv 3))) (by rfl))))
    (pss_one (ps_ret (pe_tup (pa2 (pe_op op_fdivW (pv 0) (pv 2)) (pe_op op_fdivW (pv 1) (pv 2)))))))), ?_⟩
  refine q_asg (v := .int a) (ev_var rfl) fun H1 e1 => ?_
  refine q_asg (v := .int b) (ev_var rfl) fun H2 e2 => ?_
  refine q_while (fun m σ H' => ∃ x y : Int, σ = [some (.int a), some (.int b), some (.int x), some (.int y)] ∧ 0 ≤ x ∧ 0 ≤ y ∧ 0 < x + y ∧ Int.gcd x y = Int.gcd a b ∧ m = y.toNat ∧ Ex H H') b.toNat ⟨a, b, rfl, h0, by omega, by omega, rfl, rfl, e1.trans e2⟩ ?_
  rintro m σ H' ⟨x, y, rfl, hx, hy, hxy, hg, rfl, hE⟩
  refine ⟨decide (0 < y), et_test (by walk_at "ev"), fun hb H3 e3 => ?_, fun hb H3 e3 => ?_⟩
  · have hy0 : 0 < y := of_decide_eq_true hb
    refine ⟨_, fun _ _ h => h, s_par (ea_cons (ev_var rfl) (ea_cons (ev_op (ev_var rfl) (ev_var rfl) (rv_I (by omega))) ea_nil)) fun H4 e4 => ?_⟩
    have em : x.fmod y = x % y := Int.fmod_eq_emod_of_nonneg x (by omega)
    have m0 := Int.emod_nonneg x (show y ≠ 0 by omega)
    have m1 := Int.emod_lt_of_pos x hy0
    have hg2 := gcd_step x y hx hy0
    rw [em] at hg2 ⊢
    exact ⟨(x % y).toNat, by omega, y, x % y, rfl, hy, m0, by omega, hg2.trans hg, rfl, (hE.trans e3).trans e4⟩
  · have hy0 : y = 0 := by
      have := of_decide_eq_false hb
      omega
    subst hy0
    have hx0 : x = (Int.gcd a b : Int) := by
      rw [← hg, Int.gcd_zero_right]
      omega
    have hd : CDivW a x ∧ CDivW b x := by
      have q : x ≤ b := by
        rw [hx0]
        exact Int.le_of_dvd h1 (Int.gcd_dvd_right ..)
      have q2 : Sm 8000 x := h2.le hx q
      exact ⟨wide_div (by omega) q2 (by decide) (by decide), wide_div (by omega) q2 (by decide) (by decide)⟩
    refine s_retD (d := frD (Rat.divInt a b)) (ed_tup (ead_cons (ed_int ?_) (ead_cons (ed_int ?_) ead_nil)) (by show 2 ≤ 100000; decide)) fun v H4 e4 hv => hQ v H4 ((hE.trans e3).trans e4) hv
    · rw [divInt_num h1, ← hx0]
      exact ev_op (ev_var rfl) (ev_var rfl) (rv_I hd.1)
    · rw [divInt_den h1, ← hx0]
      exact ev_op (ev_var rfl) (ev_var rfl) (rv_I hd.2)

/-! ### the four operations, the comparisons -/
theorem cm {N M : Nat} {i j : Int} (a : Sm N i) (b : Sm M j) (h0 : 0 < N := by decide) (h1 : 0 < M := by decide) (h : N + M ≤ 1000000 := by decide) : CMulW i j := wide_mul a b h0 h1 h
def R_op (g h : Int → Int → Int → Int → Int) : List PyData → PyData → Prop := fun ds d => ∃ a b c e : Int, ds = [pr a b, pr c e] ∧ Sm 2000 a ∧ Sm 2000 b ∧ Sm 2000 c ∧ Sm 2000 e ∧ 0 ≤ g a b c e ∧ 0 < h a b c e ∧ d = frD (Rat.divInt (g a b c e) (h a b c e))
theorem R_op.len {g h : Int → Int → Int → Int → Int} (ds d) (r : R_op g h ds d) : ds.length = 2 := by obtain ⟨a, b, c, e, rfl, _⟩ := r; rfl
/-- a part of a pair that stands in a slot -/
theorem ev_pr0 {σ : L2.St} {H : Hp} {ta : TE} {a b : Int} (h : EvD K ta σ H (pr a b)) : Ev (tOp (rIxT K) ta (tC (.int 0))) σ H (.int a) := ev_int (ed_ixT h ev_c rfl)
theorem ev_pr1 {σ : L2.St} {H : Hp} {ta : TE} {a b : Int} (h : EvD K ta σ H (pr a b)) : Ev (tOp (rIxT K) ta (tC (.int 1))) σ H (.int b) := ev_int (ed_ixT h ev_c rfl)
abbrev ix {X : Cx} {a b : Expr} {ta tb : TE} {pos : Pos} (ha : PE X a ta) (hb : PE X b tb) (hs : PlainIx b := by exact fun _ _ => rfl) : PE X (.Subscript a b pos) (tOp (rIxT X.K) ta tb) := pe_ix ix_tup ha hb hs
local macro_rules | `(tactic| walk_at "ar") => `(tactic| repeat' first
  | exact ev_pr0 (ed_var rfl (by assumption))
  | exact ev_pr1 (ed_var rfl (by assumption))
  | exact ev_c
  | exact ev_var rfl
  | refine ev_op ?_ ?_ rv_I0
  | refine ev_op ?_ ?_ (rv_I ?_)
  | exact cm (by assumption) (by assumption))
abbrev sPlus : Stmt := top 12
abbrev sMinus : Stmt := top 13
abbrev sTimes : Stmt := top 14
abbrev sOver : Stmt := top 15
abbrev sBelow : Stmt := top 16
abbrev sLesser : Stmt := top 17
abbrev sGreater : Stmt := top 18
theorem sc_plus : FnScope ["one", "other"] ["one", "other"] (defScope sPlus) := ⟨rfl, rfl, rfl, by decide +kernel, rfl, by decide +kernel, by decide +kernel⟩
theorem sc_minus : FnScope ["one", "other"] ["one", "other"] (defScope sMinus) := ⟨rfl, rfl, rfl, by decide +kernel, rfl, by decide +kernel, by decide +kernel⟩
theorem sc_times : FnScope ["one", "other"] ["one", "other"] (defScope sTimes) := ⟨rfl, rfl, rfl, by decide +kernel, rfl, by decide +kernel, by decide +kernel⟩
theorem sc_over : FnScope ["one", "other"] ["one", "other"] (defScope sOver) := ⟨rfl, rfl, rfl, by decide +kernel, rfl, by decide +kernel, by decide +kernel⟩
theorem sc_below : FnScope ["one", "other"] ["one", "other"] (defScope sBelow) := ⟨rfl, rfl, rfl, by decide +kernel, rfl, by decide +kernel, by decide +kernel⟩
theorem sc_lesser : FnScope ["one", "other"] ["one", "other"] (defScope sLesser) := ⟨rfl, rfl, rfl, by decide +kernel, rfl, by decide +kernel, by decide +kernel⟩
theorem sc_greater : FnScope ["one", "other"] ["one", "other"] (defScope sGreater) := ⟨rfl, rfl, rfl, by decide +kernel, rfl, by decide +kernel, by decide +kernel⟩
abbrev gPlus : Int → Int → Int → Int → Int := fun a b c e => a * e + c * b
abbrev gMinus : Int → Int → Int → Int → Int := fun a b c e => a * e - c * b
abbrev gTimes : Int → Int → Int → Int → Int := fun a _ c _ => a * c
abbrev gOver : Int → Int → Int → Int → Int := fun a _ _ e => a * e
abbrev hPlus : Int → Int → Int → Int → Int := fun _ b _ e => b * e
abbrev hOver : Int → Int → Int → Int → Int := fun _ b c _ => b * c
theorem dps2 {H : Hp} {vs : List V} {d e : PyData} (h : DpAll K H vs [d, e]) : ∃ v w, vs = [v, w] ∧ Dp K H v d ∧ Dp K H w e := by
  cases h with
  | cons h1 h2 =>
    cases h2 with
    | cons h3 h4 =>
      cases h4
      exact ⟨_, _, rfl, h1, h3⟩
theorem ok_plus {f : Addr} {fd : FuncData} (F : Fun K "plus" "plus" sPlus f fd) (L : Has P w K mg base "lowest" 1 ["a", "b"] (spP K R_low)) : FnOk P w K mg base CX0 2 f fd ["one", "other"] (spP K (R_op gPlus hPlus)) := by
  refine okP F sc_plus (fun ds d h => h.len) fun cdv A outer s H vs Q E ds d hr hv hR hQ => ?_
  obtain ⟨a, b, c, e, rfl, s1, s2, s3, s4, h0, h1, rfl⟩ := hR
  obtain ⟨v, x, rfl, hv, hx⟩ := dps2 hv
  refine ⟨_, pss_one (ps_ret (pe_callH L hr (pa2 (pe_op op_add (pe_op op_mulW (ix (pv 0) pe_int) (ix (pv 1) pe_int)) (pe_op op_mulW (ix (pv 1) pe_int) (ix (pv 0) pe_int))) (pe_op op_mulW (ix (pv 0) pe_int) (ix (pv 1) pe_int))))), ?_⟩
  refine s_retD (ed_call (ds := [.int (gPlus a b c e), .int (hPlus a b c e)]) (ead_cons (ed_int ?_) (ead_cons (ed_int ?_) ead_nil)) ⟨_, _, rfl, h0, h1, (s2.mul s4).mono (by decide), rfl⟩) fun v H4 e4 hv => hQ v H4 e4 hv
  all_goals walk_at "ar"
theorem ok_minus {f : Addr} {fd : FuncData} (F : Fun K "minus" "minus" sMinus f fd) (L : Has P w K mg base "lowest" 1 ["a", "b"] (spP K R_low)) : FnOk P w K mg base CX0 2 f fd ["one", "other"] (spP K (R_op gMinus hPlus)) := by
  refine okP F sc_minus (fun ds d h => h.len) fun cdv A outer s H vs Q E ds d hr hv hR hQ => ?_
  obtain ⟨a, b, c, e, rfl, s1, s2, s3, s4, h0, h1, rfl⟩ := hR
  obtain ⟨v, x, rfl, hv, hx⟩ := dps2 hv
  refine ⟨_, pss_one (ps_ret (pe_callH L hr (pa2 (pe_op op_sub (pe_op op_mulW (ix (pv 0) pe_int) (ix (pv 1) pe_int)) (pe_op op_mulW (ix (pv 1) pe_int) (ix (pv 0) pe_int))) (pe_op op_mulW (ix (pv 0) pe_int) (ix (pv 1) pe_int))))), ?_⟩
  refine s_retD (ed_call (ds := [.int (gMinus a b c e), .int (hPlus a b c e)]) (ead_cons (ed_int ?_) (ead_cons (ed_int ?_) ead_nil)) ⟨_, _, rfl, h0, h1, (s2.mul s4).mono (by decide), rfl⟩) fun v H4 e4 hv => hQ v H4 e4 hv
  all_goals walk_at "ar"
theorem ok_times {f : Addr} {fd : FuncData} (F : Fun K "times" "times" sTimes f fd) (L : Has P w K mg base "lowest" 1 ["a", "b"] (spP K R_low)) : FnOk P w K mg base CX0 2 f fd ["one", "other"] (spP K (R_op gTimes hPlus)) := by
  refine okP F sc_times (fun ds d h => h.len) fun cdv A outer s H vs Q E ds d hr hv hR hQ => ?_
  obtain ⟨a, b, c, e, rfl, s1, s2, s3, s4, h0, h1, rfl⟩ := hR
  obtain ⟨v, x, rfl, hv, hx⟩ := dps2 hv
  refine ⟨_, pss_one (ps_ret (pe_callH L hr (pa2 (pe_op op_mulW (ix (pv 0) pe_int) (ix (pv 1) pe_int)) (pe_op op_mulW (ix (pv 0) pe_int) (ix (pv 1) pe_int))))), ?_⟩
  refine s_retD (ed_call (ds := [.int (gTimes a b c e), .int (hPlus a b c e)]) (ead_cons (ed_int ?_) (ead_cons (ed_int ?_) ead_nil)) ⟨_, _, rfl, h0, h1, (s2.mul s4).mono (by decide), rfl⟩) fun v H4 e4 hv => hQ v H4 e4 hv
  all_goals walk_at "ar"
theorem ok_over {f : Addr} {fd : FuncData} (F : Fun K "over" "over" sOver f fd) (L : Has P w K mg base "lowest" 1 ["a", "b"] (spP K R_low)) : FnOk P w K mg base CX0 2 f fd ["one", "other"] (spP K (R_op gOver hOver)) := by
  refine okP F sc_over (fun ds d h => h.len) fun cdv A outer s H vs Q E ds d hr hv hR hQ => ?_
  obtain ⟨a, b, c, e, rfl, s1, s2, s3, s4, h0, h1, rfl⟩ := hR
  obtain ⟨v, x, rfl, hv, hx⟩ := dps2 hv
  refine ⟨_, pss_one (ps_ret (pe_callH L hr (pa2 (pe_op op_mulW (ix (pv 0) pe_int) (ix (pv 1) pe_int)) (pe_op op_mulW (ix (pv 0) pe_int) (ix (pv 1) pe_int))))), ?_⟩
  refine s_retD (ed_call (ds := [.int (gOver a b c e), .int (hOver a b c e)]) (ead_cons (ed_int ?_) (ead_cons (ed_int ?_) ead_nil)) ⟨_, _, rfl, h0, h1, (s2.mul s3).mono (by decide), rfl⟩) fun v H4 e4 hv => hQ v H4 e4 hv
  all_goals walk_at "ar"
def R_below : List PyData → PyData → Prop := fun ds d => ∃ a b c e : Int, ds = [pr a b, pr c e] ∧ Sm 2000 a ∧ Sm 2000 b ∧ Sm 2000 c ∧ Sm 2000 e ∧ d = .bool (decide (a * e < c * b))
theorem ok_below {f : Addr} {fd : FuncData} (F : Fun K "below" "below" sBelow f fd) : FnOk P w K mg base CX0 1 f fd ["one", "other"] (spP K R_below) := by
  refine okP F sc_below (fun ds d h => by obtain ⟨a, b, c, e, rfl, _⟩ := h; rfl) fun cdv A outer s H vs Q E ds d hr hv hR hQ => ?_
  obtain ⟨a, b, c, e, rfl, s1, s2, s3, s4, rfl⟩ := hR
  obtain ⟨v, x, rfl, hv, hx⟩ := dps2 hv
  refine ⟨_, pss_one (ps_ret (pe_cmpR op_lt (pe_op op_mulW (ix (pv 0) pe_int) (ix (pv 1) pe_int)) (pe_op op_mulW (ix (pv 1) pe_int) (ix (pv 0) pe_int)) (nomark _))), ?_⟩
  refine s_ret (v := .bl (decide (a * e < c * b))) ?_ fun H4 e4 => hQ _ H4 e4 (.bl _)
  walk_at "ar"
/-! between fractions in lowest terms -/
theorem R_plus {q r : Rat} (h0 : 0 ≤ q) (h1 : 0 ≤ r) (b0 : Bd 2000 q) (b1 : Bd 2000 r) : R_op gPlus hPlus [frD q, frD r] (frD (q + r)) := by
  have n0 := Rat.num_nonneg.mpr h0
  have n1 := Rat.num_nonneg.mpr h1
  have d0 := den_pos q
  have d1 := den_pos r
  refine ⟨q.num, q.den, r.num, r.den, rfl, b0.1, b0.2, b1.1, b1.2, ?_, Int.mul_pos d0 d1, by rw [add_divInt]⟩
  have x := Int.mul_nonneg n0 (Int.le_of_lt d1)
  have y := Int.mul_nonneg n1 (Int.le_of_lt d0)
  show 0 ≤ q.num * (r.den : Int) + r.num * (q.den : Int)
  omega
theorem R_minus {q r : Rat} (h : r ≤ q) (b0 : Bd 2000 q) (b1 : Bd 2000 r) : R_op gMinus hPlus [frD q, frD r] (frD (q - r)) := by
  refine ⟨q.num, q.den, r.num, r.den, rfl, b0.1, b0.2, b1.1, b1.2, ?_, Int.mul_pos (den_pos q) (den_pos r), by rw [sub_divInt]⟩
  have x := (Rat.le_iff _ _).mp h
  show 0 ≤ q.num * (r.den : Int) - r.num * (q.den : Int)
  omega
theorem R_times {q r : Rat} (h0 : 0 ≤ q) (h1 : 0 ≤ r) (b0 : Bd 2000 q) (b1 : Bd 2000 r) : R_op gTimes hPlus [frD q, frD r] (frD (q * r)) := by
  refine ⟨q.num, q.den, r.num, r.den, rfl, b0.1, b0.2, b1.1, b1.2, Int.mul_nonneg (Rat.num_nonneg.mpr h0) (Rat.num_nonneg.mpr h1), Int.mul_pos (den_pos q) (den_pos r), by rw [mul_divInt]⟩
theorem R_over {q r : Rat} (h0 : 0 ≤ q) (h1 : 0 < r) (b0 : Bd 2000 q) (b1 : Bd 2000 r) : R_op gOver hOver [frD q, frD r] (frD (q / r)) := by
  have n1 : 0 < r.num := by
    have x := (Rat.lt_iff 0 r).mp h1
    simpa using x
  refine ⟨q.num, q.den, r.num, r.den, rfl, b0.1, b0.2, b1.1, b1.2, Int.mul_nonneg (Rat.num_nonneg.mpr h0) (Int.le_of_lt (den_pos r)), Int.mul_pos (den_pos q) n1, by rw [div_divInt]⟩
theorem R_lt {q r : Rat} (b0 : Bd 2000 q) (b1 : Bd 2000 r) : R_below [frD q, frD r] (.bool (decide (q < r))) := by
  refine ⟨q.num, q.den, r.num, r.den, rfl, b0.1, b0.2, b1.1, b1.2, ?_⟩
  rw [decide_eq_decide.mpr (lt_cross q r)]
/-! ### lesser, greater -/
def R_les : List PyData → PyData → Prop := fun ds d => ∃ q r : Rat, ds = [frD q, frD r] ∧ Bd 2000 q ∧ Bd 2000 r ∧ d = frD (cutHigh q r)
def R_gre : List PyData → PyData → Prop := fun ds d => ∃ q r : Rat, ds = [frD q, frD r] ∧ Bd 2000 q ∧ Bd 2000 r ∧ d = frD (cutLow q r)
theorem ok_lesser {f : Addr} {fd : FuncData} (F : Fun K "lesser" "lesser" sLesser f fd) (L : Has P w K mg base "below" 1 ["one", "other"] (spP K R_below)) : FnOk P w K mg base CX0 2 f fd ["one", "other"] (spP K R_les) := by
  refine okP F sc_lesser (fun ds d h => by obtain ⟨a, b, rfl, _⟩ := h; rfl) fun cdv A outer s H vs Q E ds d hr hv hR hQ => ?_
  obtain ⟨q, r, rfl, b0, b1, rfl⟩ := hR
  obtain ⟨v, x, rfl, hv, hx⟩ := dps2 hv
  refine ⟨_, pss_cons (ps_if (pt_val (pe_callH L hr (pa2 (pv 1) (pv 0)))) (pss_one (ps_ret (pv 1))) pss_nil) (pss_one (ps_ret (pv 0))), ?_⟩
  refine q_when (b := decide (r < q)) (et_B (ev_bl (ed_call (ead_cons (ed_var rfl hx) (ead_cons (ed_var rfl hv) ead_nil)) (R_lt b1 b0)))) (fun hb H1 e1 => ?_) fun hb H1 e1 => ?_
  · refine s_retD (ed_var rfl (hx.mono e1)) fun v H2 e2 hv => hQ v H2 (e1.trans e2) ?_
    unfold cutHigh
    rw [if_pos (of_decide_eq_true hb)]
    exact hv
  · refine s_retD (ed_var rfl (hv.mono e1)) fun v H2 e2 hv => hQ v H2 (e1.trans e2) ?_
    unfold cutHigh
    rw [if_neg (of_decide_eq_false hb)]
    exact hv
theorem ok_greater {f : Addr} {fd : FuncData} (F : Fun K "greater" "greater" sGreater f fd) (L : Has P w K mg base "below" 1 ["one", "other"] (spP K R_below)) : FnOk P w K mg base CX0 2 f fd ["one", "other"] (spP K R_gre) := by
  refine okP F sc_greater (fun ds d h => by obtain ⟨a, b, rfl, _⟩ := h; rfl) fun cdv A outer s H vs Q E ds d hr hv hR hQ => ?_
  obtain ⟨q, r, rfl, b0, b1, rfl⟩ := hR
  obtain ⟨v, x, rfl, hv, hx⟩ := dps2 hv
  refine ⟨_, pss_cons (ps_if (pt_val (pe_callH L hr (pa2 (pv 0) (pv 1)))) (pss_one (ps_ret (pv 1))) pss_nil) (pss_one (ps_ret (pv 0))), ?_⟩
  refine q_when (b := decide (q < r)) (et_B (ev_bl (ed_call (ead_cons (ed_var rfl hv) (ead_cons (ed_var rfl hx) ead_nil)) (R_lt b0 b1)))) (fun hb H1 e1 => ?_) fun hb H1 e1 => ?_
  · refine s_retD (ed_var rfl (hx.mono e1)) fun v H2 e2 hv => hQ v H2 (e1.trans e2) ?_
    unfold cutLow
    rw [if_pos (of_decide_eq_true hb)]
    exact hv
  · refine s_retD (ed_var rfl (hv.mono e1)) fun v H2 e2 hv => hQ v H2 (e1.trans e2) ?_
    unfold cutLow
    rw [if_neg (of_decide_eq_false hb)]
    exact hv

/-! ### is_whole, is_fraction -/
abbrev sWhole : Stmt := top 9
abbrev sFrac : Stmt := top 11
theorem sc_whole : FnScope ["number"] ["number"] (defScope sWhole) := ⟨rfl, rfl, rfl, by decide +kernel, rfl, by decide +kernel, by decide +kernel⟩
theorem sc_frac : FnScope ["thing"] ["thing"] (defScope sFrac) := ⟨rfl, rfl, rfl, by decide +kernel, rfl, by decide +kernel, by decide +kernel⟩
/-- a built-in name that the module does not bind -/
abbrev Free (mg : Str → Option Value) (x : Str) : Prop := mg x = none
theorem boot_isinstance : bootBuiltins "isinstance" = some (.builtin "isinstance") := by decide +kernel
theorem boot_bool : bootBuiltins "bool" = some (.type "bool") := by decide +kernel
theorem boot_int : bootBuiltins "int" = some (.type "int") := by decide +kernel
theorem boot_tuple : bootBuiltins "tuple" = some (.type "tuple") := by decide +kernel
theorem boot_list : bootBuiltins "list" = some (.type "list") := by decide +kernel
/-- isinstance(e, T), T a built-in class -/
theorem pe_isi {X : Cx} {e : Expr} {ta : TE} {x : Str} {n : String} {p1 p2 pos : Pos} (he : PE X e ta) (mi : X.mg "isinstance" = none) (mx : X.mg x = none) (hv : bootBuiltins x = some (.type n)) (gi : Gl X "isinstance" := by rfl) (gx : Gl X x := by rfl) (hn : x ≠ "__name__" := by decide) (hdb : (x == ("__debug__" : Str)) = false := by decide)
    (hs1 : starEach [e, .Name x p2] X.env = (false, eval e X.env) :: starEach [.Name x p2] X.env := by rfl) (hs2 : starEach [.Name x p2] X.env = (false, eval (.Name x p2) X.env) :: starEach [] X.env := by rfl) (hpl : (backTo pos (starEach [.Name x p2] X.env)).any (·.1) = false := by rfl) :
    PE X (.Call (.Name "isinstance" p1) [e, .Name x p2] [] pos) (tCB (rIsi X.K) (tCons ta (tCons (tC (.ty n)) tNil))) :=
  pe_callB call_isi gi mi boot_isinstance (pa_cons he (pa_cons (pe_bltn gx mx hv rfl hn hdb) pa_nil hs2) hs1) (by decide) (by decide) hs1 hpl
def R_wh : List PyData → PyData → Prop := fun ds d => ∃ i : Int, ds = [.int i] ∧ d = .bool true
theorem ok_whole {f : Addr} {fd : FuncData} (F : Fun K "is_whole" "is_whole" sWhole f fd) (mi : mg "isinstance" = none) (mn : mg "int" = none) (mb : mg "bool" = none) : FnOk P w K mg base CX0 1 f fd ["number"] (spP K R_wh) := by
  refine okP F sc_whole (fun ds d h => by obtain ⟨a, rfl, _⟩ := h; rfl) fun cdv A outer s H vs Q E ds d hr hv hR hQ => ?_
  obtain ⟨i, rfl, rfl⟩ := hR
  obtain rfl := dps_ints (ns := [i]) hv
  refine ⟨_, pss_one (ps_ret (pe_and (pe_isi (pv 0) mi mn boot_int) (pe_one (pe_not (pe_isi (pv 0) mi mb boot_bool))))), ?_⟩
  refine s_ret (ev_andV (a := true) (b := true) (ev_isi (ety_int (ev_var rfl)) (.ty _) (kit_ty (by decide +kernel))) fun _ => ev_notV (a := false) (ev_isi (ety_int (ev_var rfl)) (.ty _) (kit_ty (by decide +kernel)))) fun H1 e1 => hQ _ H1 e1 (.bl true)
def R_isfr : List PyData → PyData → Prop := fun ds d => ∃ q : Rat, ds = [frD q] ∧ 0 ≤ q ∧ Bd 2000 q ∧ d = .bool true
theorem low_self (q : Rat) : Rat.divInt q.num (q.den : Int) = q := Rat.num_divInt_den q
theorem ok_frac {f : Addr} {fd : FuncData} (F : Fun K "is_fraction" "is_fraction" sFrac f fd) (W : Has P w K mg base "is_whole" 1 ["number"] (spP K R_wh)) (L : Has P w K mg base "lowest" 1 ["a", "b"] (spP K R_low)) (mi : mg "isinstance" = none) (mt : mg "tuple" = none) (ml : mg "len" = none) :
    FnOk P w K mg base CX0 2 f fd ["thing"] (spP K R_isfr) := by
  refine okP F sc_frac (fun ds d h => by obtain ⟨a, rfl, _⟩ := h; rfl) fun cdv A outer s H vs Q E ds d hr hv hR hQ => ?_
  obtain ⟨q, rfl, h0, hb, rfl⟩ := hR
  obtain ⟨v, rfl, hv1⟩ : ∃ v, vs = [v] ∧ Dp K H v (frD q) := by
    cases hv with
    | cons h1 h2 =>
      cases h2
      exact ⟨_, rfl, h1⟩
  refine ⟨_, pss_cons (ps_if (PW.pt (pw_or (pt_not (pt_val (pe_isi (pv 0) mi mt boot_tuple))) (pw_or (pt_cmpR op_ne (pe_callB call_len_seq (by rfl) ml PySem.boot_len (pa1 (pv 0))) pe_int (nomark _))
      (pw_or (pt_not (pt_val (pe_callH W hr (pa1 (ix (pv 0) pe_int))))) (pw_or1 (pt_not (pt_val (pe_callH W hr (pa1 (ix (pv 0) pe_int))))))))))
      (pss_one (ps_ret pe_bl)) pss_nil)
    (pss_one (ps_ret (pe_and (pe_cmpR op_ge (ix (pv 0) pe_int) pe_int (nomark _)) (pe_and (pe_cmpR op_gt (ix (pv 0) pe_int) pe_int (nomark _)) (pe_one (pe_cmpR (op_eqD hr.units) (pe_callH L hr (pa2 (ix (pv 0) pe_int) (ix (pv 0) pe_int))) (pv 0) (nomark _))))))), ?_⟩
  have ehv : ∀ {H1}, Ex H H1 → EvD K (tVar 0) [some v] H1 (pr q.num q.den) := fun e => ed_var rfl (hv1.mono e)
  have e0 := Ex.refl H
  refine q_when (b := false) (et_or (a := false) (b := false) (et_not (a := true) (et_B (ev_isi (ety_tup (ehv e0)) (.ty _) (kit_ty (by decide +kernel))))) fun _ =>
    et_or (a := false) (b := false) (et_test (ev_is (ev_op (ev_lenT (ehv e0)) ev_c (rv_ne rfl)) rfl)) fun _ =>
    et_or (a := false) (b := false) (et_not (a := true) (et_B (ev_bl (ed_call (ead_cons (ed_int (ev_pr0 (ehv e0))) ead_nil) ⟨_, rfl, rfl⟩)))) fun _ =>
      et_not (a := true) (et_B (ev_bl (ed_call (ead_cons (ed_int (ev_pr1 (ehv e0))) ead_nil) ⟨_, rfl, rfl⟩)))) (fun hb => by cases hb) fun _ H1 e1 => ?_
  have n0 := Rat.num_nonneg.mpr h0
  have d0 := den_pos q
  refine s_ret (v := .bl true) (ev_is (ev_andV (ev_op (ev_pr0 (ehv e1)) ev_c rv_I0) fun _ => ev_andV (ev_op (ev_pr1 (ehv e1)) ev_c rv_I0) fun _ =>
    ev_eqD (n := 1) (m := 1) (p := True) (ed_call (ds := [.int q.num, .int q.den]) (ead_cons (ed_int (ev_pr0 (ehv e1))) (ead_cons (ed_int (ev_pr1 (ehv e1))) ead_nil)) ⟨_, _, rfl, n0, d0, hb.2.mono (by decide), rfl⟩) (ehv e1) rfl rfl (by rw [low_self]; exact ⟨fun _ => trivial, fun _ => rfl⟩)) ?_) fun H2 e2 => hQ _ H2 (e1.trans e2) (.bl true)
  rw [decide_eq_true (show 0 ≤ q.num from n0), decide_eq_true (show 0 < (q.den : Int) from d0)]
  rfl
end
end Fk
end
section
set_option Elab.async false
set_option linter.all false
set_option maxRecDepth 100000
set_option maxHeartbeats 1000000
namespace Fk
open PySem PySem.Spec PyProof.Rows L2 Evl
/-! ### tastes as data, as objects -/
def stepD (x : Rat × Nat) : PyData := .tuple [frD x.1, .int (x.2 : Int)]
def stepsD (T : Steps) : PyData := .list (T.map stepD)
def rowD (r : Rat × Rat × Nat) : PyData := .tuple [frD r.1, frD r.2.1, frD (r.2.2 : Rat)]
def rowsD (T : Steps) : PyData := .list ((rowsOf 0 T).map rowD)
theorem stepD_nl (x : Rat × Nat) : nlD 2 (stepD x) = true := rfl
theorem stepD_ok (x : Rat × Nat) : okD 2 (stepD x) = true := rfl
theorem rowD_nl (x : Rat × Rat × Nat) : nlD 2 (rowD x) = true := rfl
/-- fields: rows alone, and with total -/
def f1 (l : Addr) : List (Str × V) := putF "rows" (.ref l) []
def f2 (l : Addr) (t : V) : List (Str × V) := putF "total" t (f1 l)
theorem nrt : ¬ (("rows" : Str) = "total") := by decide +kernel
theorem f1_rows (l : Addr) : (f1 l).lookup ("rows" : Str) = some (.ref l) := by
  unfold f1
  rw [lookup_putF, if_pos rfl]
theorem f1_no (l : Addr) {m : Str} (h : ¬ m = "rows") : (f1 l).lookup m = none := by
  unfold f1
  rw [lookup_putF, if_neg h]
  all_goals rfl
theorem f2_rows (l : Addr) (t : V) : (f2 l t).lookup ("rows" : Str) = some (.ref l) := by
  unfold f2
  rw [lookup_putF, if_neg nrt, f1_rows]
theorem f2_total (l : Addr) (t : V) : (f2 l t).lookup ("total" : Str) = some t := by
  unfold f2
  rw [lookup_putF, if_pos rfl]
theorem f2_no (l : Addr) (t : V) {m : Str} (h : ¬ m = "rows") (h2 : ¬ m = "total") : (f2 l t).lookup m = none := by
  unfold f2
  rw [lookup_putF, if_neg h2, f1_no l h]
def RowsAt (K : PySem.W.Frag) (C : Addr) (H : Hp) (v : V) (T : Steps) : Prop := ∃ a dx fs l, v = .ref a ∧ H a = some (.ins C dx fs) ∧ fs.lookup ("rows" : Str) = some (.ref l) ∧ (∀ m : Str, ¬ m = "rows" → ¬ m = "total" → fs.lookup m = none) ∧ Dp K H (.ref l) (rowsD T)
def TasteAt (K : PySem.W.Frag) (C : Addr) (H : Hp) (v : V) (T : Steps) : Prop := ∃ a dx l t, v = .ref a ∧ H a = some (.ins C dx (f2 l t)) ∧ Dp K H (.ref l) (rowsD T) ∧ Dp K H t (frD (tot T))
theorem TasteAt.rows {K : PySem.W.Frag} {C : Addr} {H : Hp} {v : V} {T : Steps} (h : TasteAt K C H v T) : RowsAt K C H v T := by
  obtain ⟨a, dx, l, t, rfl, h1, h2, h3⟩ := h
  exact ⟨a, dx, _, l, rfl, h1, f2_rows l t, fun m k1 k2 => f2_no l t k1 k2, h2⟩
theorem RowsAt.mono {K : PySem.W.Frag} {C : Addr} {H H' : Hp} {v : V} {T : Steps} (e : Ex H H') (h : RowsAt K C H v T) : RowsAt K C H' v T := by
  obtain ⟨a, dx, fs, l, rfl, h1, h2, h3, h4⟩ := h
  exact ⟨a, dx, fs, l, rfl, e _ _ h1, h2, h3, h4.mono e⟩
theorem TasteAt.mono {K : PySem.W.Frag} {C : Addr} {H H' : Hp} {v : V} {T : Steps} (e : Ex H H') (h : TasteAt K C H v T) : TasteAt K C H' v T := by
  obtain ⟨a, dx, l, t, rfl, h1, h2, h3⟩ := h
  exact ⟨a, dx, l, t, rfl, e _ _ h1, h2.mono e, h3.mono e⟩
/-- what the walk asks of the class Taste -/
structure TCls (K : PySem.W.Frag) (C : Addr) : Prop where
  cl : Cls K C
  nR : NoAttr K C "rows"
  nT : NoAttr K C "total"
/-- a method of it -/
abbrev HasM (P : Program) (w : World) (K : PySem.W.Frag) (mg : Str → Option Value) (base : Heap) (C : Addr) (m : Str) (k : Nat) (ps : List Str) (sp : Sp) : Prop :=
  ∃ f fd, Meth K C m f ∧ Binds K fd ps [] ∧ FnOk P w K mg base CX0 k f fd ps sp
abbrev MAt (K : PySem.W.Frag) (C : Addr) (m qual : Str) (st : Stmt) (ps : List Str) : Prop := ∃ f fd, Meth K C m f ∧ Fun K m qual st f fd ∧ Binds K fd ps []
theorem MAt.has {P : Program} {w : World} {K : PySem.W.Frag} {mg : Str → Option Value} {base : Heap} {C : Addr} {m qual : Str} {st : Stmt} {ps : List Str} {k : Nat} {sp : Sp} (A : MAt K C m qual st ps) (h : ∀ f fd, Fun K m qual st f fd → FnOk P w K mg base CX0 k f fd ps sp) : HasM P w K mg base C m k ps sp := by
  obtain ⟨f, fd, h1, h2, h3⟩ := A
  exact ⟨f, fd, h1, h3, h f fd h2⟩
theorem pe_methH {X : Cx} {C : Addr} {m : Str} {k : Nat} {ps : List Str} {sp : Sp} {apos pos : Pos} {o e : Expr} {es : List Expr} {t : TA} {ta : TE} {pl : Sem Bool} (he : PE X o ta) (c : Cls X.K C) (G : HasM X.prog X.w X.K X.mg X.base C m k ps sp) (hr : Room k X.A) (ha : PA X (e :: es) t)
    (hst : starEach (e :: es) X.env = (false, eval e X.env) :: starEach es X.env := by rfl) (hpl : (backTo pos (starEach es X.env)).any (·.1) = false := by rfl)
    (ht : eval (.Call (.Attribute o m apos) (e :: es) [] pos) X.env = (do
      let ov ← eval o X.env
      standAt apos.atName
      let (f, first) ← holding [ov] (getMethod ov m pl)
      callWith pos f first (backTo pos (starEach (e :: es) X.env)) (backToKw pos (keywordEach [] X.env))) := by rfl) :
    PE X (.Call (.Attribute o m apos) (e :: es) [] pos) (tMeth C m sp [] E0 ta t) := by
  obtain ⟨f, fd, h1, h2, h3⟩ := G
  exact pe_meth he c h1 h3 hr h2 .nil pass0 ha hst hpl ht
/-- what a method of a taste promises: from data to data -/
def spM (At : Hp → V → Steps → Prop) (K : PySem.W.Frag) (R : Steps → List PyData → PyData → Prop) : Sp := fun vs H Q _ => ∃ v ws T ds d, vs = v :: ws ∧ At H v T ∧ DpAll K H ws ds ∧ R T ds d ∧ ∀ v' H', Ex H H' → Dp K H' v' d → Q v' H'
section
variable {P : Program} {w : World} {K : PySem.W.Frag} {mg : Str → Option Value} {base : Heap} {C : Addr} {σ : L2.St} {H H' : Hp} {v : V} {T : Steps} {ta : TE} {tas : TA} {ds : List PyData} {d : PyData}
theorem ed_methR {m : Str} {R : Steps → List PyData → PyData → Prop} (hv : Ev ta σ H v) (h : RowsAt K C H v T) (ha : EvAD K tas σ H ds) (hr : R T ds d) (m1 : ¬ m = "rows" := by decide +kernel) (m2 : ¬ m = "total" := by decide +kernel) : EvD K (tMeth C m (spM (RowsAt K C) K R) [] E0 ta tas) σ H d := fun H1 x Q q =>
  hv H1 x _ fun H2 x2 => by
    have hh := h.mono (x.trans x2)
    obtain ⟨a, dx, fs, l, rfl, h1, h2, h3, h4⟩ := id hh
    refine ⟨a, dx, fs, rfl, h1, h3 m m1 m2, ha H2 (x.trans x2) _ fun ws H3 x3 hws => ?_⟩
    rw [List.append_nil]
    exact ⟨_, ws, T, ds, d, rfl, hh.mono x3, hws, hr, fun v' H4 x4 hv' => q v' H4 ((x2.trans x3).trans x4) hv'⟩
theorem ed_methT {m : Str} {R : Steps → List PyData → PyData → Prop} (hv : Ev ta σ H v) (h : TasteAt K C H v T) (ha : EvAD K tas σ H ds) (hr : R T ds d) (m1 : ¬ m = "rows" := by decide +kernel) (m2 : ¬ m = "total" := by decide +kernel) : EvD K (tMeth C m (spM (TasteAt K C) K R) [] E0 ta tas) σ H d := fun H1 x Q q =>
  hv H1 x _ fun H2 x2 => by
    have hh := h.mono (x.trans x2)
    obtain ⟨a, dx, l, t, rfl, h1, h2, h3⟩ := id hh
    refine ⟨a, dx, _, rfl, h1, f2_no l t m1 m2, ha H2 (x.trans x2) _ fun ws H3 x3 hws => ?_⟩
    rw [List.append_nil]
    exact ⟨_, ws, T, ds, d, rfl, hh.mono x3, hws, hr, fun v' H4 x4 hv' => q v' H4 ((x2.trans x3).trans x4) hv'⟩
/-- self.rows, self.total -/
theorem ed_rows {i : Nat} (c : TCls K C) (hi : σ[i]? = some (some v)) (h : RowsAt K C H v T) : EvD K (tFld K (tVar i) "rows") σ H (rowsD T) := fun H1 x Q q => by
  obtain ⟨a, dx, fs, l, rfl, h1, h2, h3, h4⟩ := h.mono x
  exact ⟨_, hi, a, C, dx, fs, _, rfl, h1, c.cl, c.nR, h2, q _ H1 (Ex.refl H1) h4⟩
theorem ed_total {i : Nat} (c : TCls K C) (hi : σ[i]? = some (some v)) (h : TasteAt K C H v T) : EvD K (tFld K (tVar i) "total") σ H (frD (tot T)) := fun H1 x Q q => by
  obtain ⟨a, dx, l, t, rfl, h1, h2, h3⟩ := h.mono x
  exact ⟨_, hi, a, C, dx, _, _, rfl, h1, c.cl, c.nT, f2_total l t, q _ H1 (Ex.refl H1) h3⟩
/-- for .. in self.rows -/
theorem q_forRows {i : Nat} {g : TG} {D : Ends} {tu tz : TS} (c : TCls K C) (hi : σ[i]? = some (some v)) (h : RowsAt K C H v T) (Pv : Nat → L2.St → Hp → Prop) (h0 : ∀ H1, Ex H H1 → Pv 0 σ H1) (hl : ∀ i σ' H', Pv i σ' H' → Ex H H')
    (hs : ∀ i r v σ' H', (rowsOf 0 T)[i]? = some r → Dp K H' v (rowD r) → Pv i σ' H' → g v σ' H' fun σ2 H2 => tu { D with nx := Pv (i + 1), ct := Pv (i + 1), bk := tz D } σ2 H2) (hd : ∀ σ' H', Pv (rowsOf 0 T).length σ' H' → tz D σ' H') : tSeq (tFor (iList K (tFld K (tVar i) "rows")) g tu) tz D σ H := by
  obtain ⟨a, dx, fs, l, rfl, h1, h2, h3, h4⟩ := h
  obtain ⟨p, xs, e, k1, k2⟩ := h4.lst_inv
  cases e
  have ev : Ev (tFld K (tVar i) "rows") σ H (.ref l) := fun H1 x Q q => ⟨_, hi, a, C, dx, fs, _, rfl, x _ _ h1, c.cl, c.nR, h2, q H1 (Ex.refl H1)⟩
  refine s_forD (D := { D with nx := tz D }) (ed_of ev h4) Pv h0 (fun i σ' H' _ p => hl i σ' H' p) (fun i d v σ' H' hd' hv p => ?_) (fun σ' H' p => hd σ' H' (by rw [List.length_map] at p; exact p)) (fun _ _ _ _ => trivial) l xs k1 k2 ev
  rw [List.getElem?_map] at hd'
  cases hr : (rowsOf 0 T)[i]? with
  | none => rw [hr] at hd'; cases hd'
  | some r =>
    rw [hr] at hd'
    cases (Option.some.inj hd')
    exact hs i r v σ' H' hr hv p
end

section
variable {P : Program} {w : World} {K : PySem.W.Frag} {mg : Str → Option Value} {base : Heap} {C : Addr}
abbrev sIsStep : Stmt := top 25
abbrev sCheck : Stmt := top 26
abbrev sInit : Stmt := inClass (top 27) 0
abbrev sSteps : Stmt := inClass (top 27) 1
abbrev sArea : Stmt := inClass (top 27) 2
abbrev sWithin : Stmt := inClass (top 27) 3
abbrev sMark : Stmt := inClass (top 27) 5
theorem sc_isstep : FnScope ["thing"] ["thing"] (defScope sIsStep) := ⟨rfl, rfl, rfl, by decide +kernel, rfl, by decide +kernel, by decide +kernel⟩
theorem sc_check : FnScope ["steps", "last", "end", "weight", "one"] ["steps"] (defScope sCheck) := ⟨rfl, rfl, rfl, by decide +kernel, rfl, by decide +kernel, by decide +kernel⟩
theorem sc_init : FnScope ["self", "steps", "last", "end", "weight"] ["self", "steps"] (defScope sInit) := ⟨rfl, rfl, rfl, by decide +kernel, rfl, by decide +kernel, by decide +kernel⟩
theorem sc_steps : FnScope ["self", "row"] ["self"] (defScope sSteps) := ⟨rfl, rfl, rfl, by decide +kernel, rfl, by decide +kernel, by decide +kernel⟩
theorem sc_area : FnScope ["self", "start", "end", "found", "begin", "last", "weight", "low", "high"] ["self", "start", "end"] (defScope sArea) := ⟨rfl, rfl, rfl, by decide +kernel, rfl, by decide +kernel, by decide +kernel⟩
theorem sc_within : FnScope ["self", "start", "end"] ["self", "start", "end"] (defScope sWithin) := ⟨rfl, rfl, rfl, by decide +kernel, rfl, by decide +kernel, by decide +kernel⟩
theorem sc_mark : FnScope ["self", "start", "share", "left", "begin", "last", "weight", "low", "area"] ["self", "start", "share"] (defScope sMark) := ⟨rfl, rfl, rfl, by decide +kernel, rfl, by decide +kernel, by decide +kernel⟩
/-- a fraction, an int that the module binds -/
def GlobF (K : PySem.W.Frag) (mg : Str → Option Value) (x : Str) (q : Rat) : Prop := ∃ a, mg x = some (.ref a) ∧ ∀ H : Hp, Dp K H (.ref a) (frD q)
def GlobI (mg : Str → Option Value) (x : Str) (i : Int) : Prop := ∃ t, mg x = some (.int i t)
theorem pe_gl {X : Cx} {x : Str} {a : Addr} {pos : Pos} (hm : X.mg x = some (.ref a)) (hg : Gl X x := by rfl) (hd : (x == ("__debug__" : Str)) = false := by decide) : PE X (.Name x pos) (tC (.ref a)) := pe_glob (v := .ref a) hg hm rfl hd
theorem pe_gli {X : Cx} {x : Str} {i : Int} {t : Tok} {pos : Pos} (hm : X.mg x = some (.int i t)) (hg : Gl X x := by rfl) (hd : (x == ("__debug__" : Str)) = false := by decide) : PE X (.Name x pos) (tC (.int i)) := pe_glob (v := .int i) hg hm ⟨t, rfl⟩ hd
/-! ### area -/
def GT (G : Nat) (T : Steps) : Prop := 0 < G ∧ G ≤ 2 ^ 1000 ∧ ∀ x ∈ T, Gr G x.1
theorem On.bd {G : Nat} {T : Steps} {s : Rat} (g : GT G T) (h : On G s) : Bd 2000 s := bd1 g.1 g.2.1 h.2.2 h.1 h.2.1
theorem cutLow_on {G : Nat} {b s : Rat} (h : On G b) (k : On G s) : On G (cutLow b s) := by
  rcases cutLow_or b s with e | e <;> rw [e] <;> assumption
theorem cutHigh_on {G : Nat} {b s : Rat} (h : On G b) (k : On G s) : On G (cutHigh b s) := by
  rcases cutHigh_or b s with e | e <;> rw [e] <;> assumption
def R_area : Steps → List PyData → PyData → Prop := fun T ds d => Good T ∧ ∃ s e G, ds = [frD s, frD e] ∧ GT G T ∧ On G s ∧ On G e ∧ d = frD (areaS 0 T s e)
/-- the row at i, with all that is known of it -/
theorem row_at {T : Steps} (g : Good T) {G : Nat} (hG : GT G T) {i : Nat} {r : Rat × Rat × Nat} (h : (rowsOf 0 T)[i]? = some r) : On G r.1 ∧ On G r.2.1 ∧ r.1 < r.2.1 ∧ 1 ≤ r.2.2 ∧ r.2.2 ≤ 1000 ∧ i < 8 := by
  have hi : i < T.length := by
    have := (List.getElem?_eq_some_iff.mp h).1
    rw [rowsOf_len] at this
    exact this
  obtain ⟨⟨l, w⟩, hx⟩ : ∃ x, T[i]? = some x := ⟨_, List.getElem?_eq_getElem hi⟩
  obtain ⟨c, h1, h2, h3, h4, h5, h6, h7⟩ := Val.at g.val hx
  rw [h2] at h
  cases h
  have gl := hG.2.2 _ (List.mem_of_getElem? hx)
  have gc := begs_gr hG.2.2 h1
  have := g.most
  refine ⟨⟨h3, by grind, gc⟩, ⟨by grind, h5, gl⟩, h4, h6, h7, by omega⟩
theorem ok_area {f : Addr} {fd : FuncData} (F : Fun K "area" "Taste.area" sArea f fd) (c : TCls K C) (gN : GlobF K mg "NOUGHT" 0) (Lb : Has P w K mg base "below" 1 ["one", "other"] (spP K R_below)) (Lg : Has P w K mg base "greater" 2 ["one", "other"] (spP K R_gre)) (Ll : Has P w K mg base "lesser" 2 ["one", "other"] (spP K R_les))
    (Lp : Has P w K mg base "plus" 2 ["one", "other"] (spP K (R_op gPlus hPlus))) (Lm : Has P w K mg base "minus" 2 ["one", "other"] (spP K (R_op gMinus hPlus))) (Lt : Has P w K mg base "times" 2 ["one", "other"] (spP K (R_op gTimes hPlus))) :
    FnOk P w K mg base CX0 3 f fd ["self", "start", "end"] (spM (RowsAt K C) K R_area) := by
  obtain ⟨a0, m0, d0⟩ := gN
  refine F.ok sc_area (fun vs H Q E h => by obtain ⟨v, ws, T, ds, d, rfl, _, h1, ⟨_, s, e, G, rfl, _⟩, _⟩ := h; rw [List.length_cons, h1.len]; rfl) fun cdv A outer s0 H vs Q E hr h => ?_
  obtain ⟨v, ws, T, ds, d, rfl, hT, hws, ⟨g, s, e, G, rfl, hG, hs, he, rfl⟩, hQ⟩ := h
  obtain ⟨vs, ve, rfl, hvs, hve⟩ := dps2 hws
  refine ⟨_, pss_cons (ps_set (i := 3) sc_area.nd rfl (.inl rfl) (pe_gl m0))
    (pss_cons (ps_for PassesOwn.never rfl (pi_list (pe_fld (pv 0) rfl)) (pg_tup (by rfl) (pgs_cons (pg_name (i := 4) sc_area.nd rfl (.inl rfl)) (pgs_cons (pg_name (i := 5) sc_area.nd rfl (.inl rfl)) (pgs_cons (pg_name (i := 6) sc_area.nd rfl (.inl rfl)) pgs_nil))))
      (pss_cons (ps_set (i := 7) sc_area.nd rfl (.inl rfl) (pe_callH Lg hr (pa2 (pv 4) (pv 1))))
      (pss_cons (ps_set (i := 8) sc_area.nd rfl (.inl rfl) (pe_callH Ll hr (pa2 (pv 5) (pv 2))))
      (pss_one (ps_if (pt_val (pe_callH (Lb.mono (by decide)) hr (pa2 (pv 7) (pv 8)))) (pss_one (ps_set (i := 3) sc_area.nd rfl (.inl rfl) (pe_callH Lp hr (pa2 (pv 3) (pe_callH Lt hr (pa2 (pv 6) (pe_callH Lm hr (pa2 (pv 8) (pv 7))))))))) pss_nil)))))
    (pss_one (ps_ret (pv 3)))), ?_⟩
  refine q_asgD (d := frD 0) (ed_c (d0 H)) fun vf H1 e1 hf => ?_
  refine q_forRows (T := T) c rfl (hT.mono e1) (fun i σ H' => ∃ fnd vf x4 x5 x6 x7 x8, σ = [some v, some vs, some ve, some vf, x4, x5, x6, x7, x8] ∧ Ex H1 H' ∧ Dp K H' vf (frD fnd) ∧ fnd + areaR ((rowsOf 0 T).drop i) s e = areaS 0 T s e ∧ Gr G fnd ∧ 0 ≤ fnd ∧ fnd ≤ ((1000 * i : Nat) : Rat))
    (fun H2 e2 => ⟨0, vf, none, none, none, none, none, rfl, e2, hf.mono e2, ?_, Gr.zero G, by grind, by simp⟩) (fun i σ' H' p => ?_) (fun i r x σ' H' hr' hx p => ?_) fun σ' H' p => ?_
  · rw [List.drop_zero, areaR_rows]
    grind
  · obtain ⟨_, _, _, _, _, _, _, _, h1, _⟩ := p
    exact h1
  · obtain ⟨fnd, vf', x4, x5, x6, x7, x8, rfl, hE, hfv, hsum, hgr, h0, hle⟩ := p
    obtain ⟨hb, hl, hbl, w1, w2, i8⟩ := row_at g hG hr'
    obtain ⟨b, l, wt⟩ := r
    have hE0 := e1.trans hE
    refine gtup3 hx fun vb vl vw kb kl kw => ?_
    have bb := hb.bd hG
    have bl := hl.bd hG
    have bs := hs.bd hG
    have be := he.bd hG
    have clo := cutLow_on hb hs
    have chi := cutHigh_on hl he
    refine q_asgD (d := frD (cutLow b s)) (ed_call (ead_cons (ed_var rfl kb) (ead_cons (ed_var rfl (hvs.mono hE0)) ead_nil)) ⟨b, s, rfl, bb, bs, rfl⟩) fun v7 H2 e2 k7 => ?_
    refine q_asgD (d := frD (cutHigh l e)) (ed_call (ead_cons (ed_var rfl (kl.mono e2)) (ead_cons (ed_var rfl (hve.mono (hE0.trans e2))) ead_nil)) ⟨l, e, rfl, bl, be, rfl⟩) fun v8 H3 e3 k8 => ?_
    have k7' := k7.mono e3
    have hrow := areaR_drop hr' s e
    have nn := rowA_nonneg s e b l wt
    have gr := Gr.row (w := wt) hs.2.2 he.2.2 hb.2.2 hl.2.2
    have le := rowA_le (s := s) (e := e) hb.1 hl.2.1 w2
    have e1000 : ((1000 * (i + 1) : Nat) : Rat) = ((1000 * i : Nat) : Rat) + 1000 := by
      rw [Nat.mul_add, Rat.natCast_add]
      rfl
    refine s_when (b := decide (cutLow b s < cutHigh l e)) (et_B (ev_bl (ed_call (ead_cons (ed_var rfl k7') (ead_cons (ed_var rfl k8) ead_nil)) (R_lt (clo.bd hG) (chi.bd hG))))) (fun hb H4 e4 => ?_) fun hb H4 e4 => ?_
    · have hlt : cutLow b s < cutHigh l e := of_decide_eq_true hb
      have er : rowA s e b l wt = (wt : Rat) * (cutHigh l e - cutLow b s) := by
        unfold rowA
        rw [if_pos hlt]
      have b1 : Bd 2000 (cutHigh l e - cutLow b s) := bd1 hG.1 hG.2.1 (chi.2.2.sub clo.2.2) (by grind) (by have := chi.2.1; have := clo.1; grind)
      have b2 : Bd 2000 (rowA s e b l wt) := bdG (M := 1000) hG.1 hG.2.1 gr nn (by simpa using le) (by decide)
      have b3 : Bd 2000 fnd := bdG (M := 1000 * i) hG.1 hG.2.1 hgr h0 hle (by omega)
      refine s_asgD (d := frD (fnd + rowA s e b l wt)) (ed_call (ds := [frD fnd, frD (rowA s e b l wt)]) (ead_cons (ed_var rfl (hfv.mono ((e2.trans e3).trans e4))) (ead_cons ?_ ead_nil)) (R_plus h0 nn b3 b2)) fun v9 H5 e5 k9 => ?_
      · rw [er]
        refine ed_call (ds := [frD (wt : Rat), frD (cutHigh l e - cutLow b s)]) (ead_cons (ed_var rfl (kw.mono ((e2.trans e3).trans e4))) (ead_cons (ed_call (ead_cons (ed_var rfl (k8.mono e4)) (ead_cons (ed_var rfl (k7'.mono e4)) ead_nil)) (R_minus (by grind) (chi.bd hG) (clo.bd hG))) ead_nil)) (R_times Rat.natCast_nonneg (by grind) (bdn w2) b1)
      · refine ⟨fnd + rowA s e b l wt, v9, _, _, _, _, _, rfl, (((hE.trans e2).trans e3).trans e4).trans e5, k9, ?_, hgr.add gr, by grind, ?_⟩
        · grind
        · rw [e1000]
          grind
    · have hlt : ¬ cutLow b s < cutHigh l e := of_decide_eq_false hb
      have er : rowA s e b l wt = 0 := by
        unfold rowA
        rw [if_neg hlt]
      refine ⟨fnd, vf', _, _, _, _, _, rfl, ((hE.trans e2).trans e3).trans e4, hfv.mono ((e2.trans e3).trans e4), ?_, hgr, h0, ?_⟩
      · rw [er] at hrow
        grind
      · rw [e1000]
        grind
  · obtain ⟨fnd, vf', x4, x5, x6, x7, x8, rfl, hE, hfv, hsum, hgr, h0, hle⟩ := p
    rw [List.drop_length, areaR_nil] at hsum
    refine s_retD (ed_var rfl hfv) fun v2 H2 e2 k2 => hQ v2 H2 ((e1.trans hE).trans e2) ?_
    have ef : fnd = areaS 0 T s e := by grind
    rw [← ef]
    exact k2

/-! ### within -/
def R_within : Steps → List PyData → PyData → Prop := fun T ds d => Good T ∧ ∃ s e G, ds = [frD s, frD e] ∧ GT G T ∧ On G s ∧ On G e ∧ d = frD (areaS 0 T s e / tot T)
theorem area_gr {T : Steps} {G : Nat} {s e : Rat} (hG : GT G T) (hs : On G s) (he : On G e) : Gr G (areaS 0 T s e) := areaS_gr T 0 s e hG.2.2 (Gr.zero G) hs.2.2 he.2.2
theorem area_bd {T : Steps} {G : Nat} {s e : Rat} (g : Good T) (hG : GT G T) (hs : On G s) (he : On G e) : Bd 2000 (areaS 0 T s e) := bdG hG.1 hG.2.1 (area_gr hG hs he) (areaS_nonneg ..) (g.tot_le s e) (by decide)
theorem on0 (G : Nat) : On G 0 := ⟨by grind, by grind, Gr.zero G⟩
theorem on1 (G : Nat) : On G 1 := ⟨by grind, by grind, Gr.one G⟩
theorem ok_within {f : Addr} {fd : FuncData} (F : Fun K "within" "Taste.within" sWithin f fd) (c : TCls K C) (Ma : HasM P w K mg base C "area" 3 ["self", "start", "end"] (spM (RowsAt K C) K R_area)) (Lo : Has P w K mg base "over" 2 ["one", "other"] (spP K (R_op gOver hOver))) :
    FnOk P w K mg base CX0 4 f fd ["self", "start", "end"] (spM (TasteAt K C) K R_within) := by
  refine F.ok sc_within (fun vs H Q E h => by obtain ⟨v, ws, T, ds, d, rfl, _, h1, ⟨_, s, e, G, rfl, _⟩, _⟩ := h; rw [List.length_cons, h1.len]; rfl) fun cdv A outer s0 H vs Q E hr h => ?_
  obtain ⟨v, ws, T, ds, d, rfl, hT, hws, ⟨g, s, e, G, rfl, hG, hs, he, rfl⟩, hQ⟩ := h
  obtain ⟨vs, ve, rfl, hvs, hve⟩ := dps2 hws
  refine ⟨_, pss_one (ps_ret (pe_callH (Lo.mono (by decide)) hr (pa2 (pe_methH (pv 0) c.cl Ma hr (pa2 (pv 1) (pv 2))) (pe_fld (pv 0) rfl)))), ?_⟩
  refine s_retD (ed_call (ead_cons (ed_methR (ev_var rfl) hT.rows (ead_cons (ed_var rfl hvs) (ead_cons (ed_var rfl hve) ead_nil)) ⟨g, s, e, G, rfl, hG, hs, he, rfl⟩) (ead_cons (ed_total c rfl hT) ead_nil))
    (R_over (areaS_nonneg ..) g.tot_pos (area_bd g hG hs he) (area_bd g hG (on0 G) (on1 G)))) fun v H1 e1 hv => hQ v H1 e1 hv
/-! ### mark -/
def R_mark : Steps → List PyData → PyData → Prop := fun T ds d => Good T ∧ ∃ s q G, ds = [frD s, frD q] ∧ GT G T ∧ On G s ∧ 0 ≤ q ∧ Bd 2000 q ∧ Gr G (q * tot T) ∧ 0 < q * tot T ∧ q * tot T ≤ areaS 0 T s 1 ∧ d = frD ((markS 0 T s (q * tot T)).getD 0)
theorem ok_mark {f : Addr} {fd : FuncData} (F : Fun K "mark" "Taste.mark" sMark f fd) (c : TCls K C) (Lb : Has P w K mg base "below" 1 ["one", "other"] (spP K R_below)) (Lg : Has P w K mg base "greater" 2 ["one", "other"] (spP K R_gre)) (Lo : Has P w K mg base "over" 2 ["one", "other"] (spP K (R_op gOver hOver)))
    (Lp : Has P w K mg base "plus" 2 ["one", "other"] (spP K (R_op gPlus hPlus))) (Lm : Has P w K mg base "minus" 2 ["one", "other"] (spP K (R_op gMinus hPlus))) (Lt : Has P w K mg base "times" 2 ["one", "other"] (spP K (R_op gTimes hPlus))) :
    FnOk P w K mg base CX0 4 f fd ["self", "start", "share"] (spM (TasteAt K C) K R_mark) := by
  refine F.ok sc_mark (fun vs H Q E h => by obtain ⟨v, ws, T, ds, d, rfl, _, h1, ⟨_, s, e, G, rfl, _⟩, _⟩ := h; rw [List.length_cons, h1.len]; rfl) fun cdv A outer s0 H vs Q E hr h => ?_
  obtain ⟨v, ws, T, ds, d, rfl, hT, hws, ⟨g, s, q, G, rfl, hG, hs, hq0, hqb, hgr0, hp0, hle0, rfl⟩, hQ⟩ := h
  obtain ⟨vs, vq, rfl, hvs, hvq⟩ := dps2 hws
  obtain ⟨p, hp, _⟩ := mark_ok T 0 s (q * tot T) g.val hp0 hle0
  rw [hp] at hQ
  have hQ : ∀ (v' : V) (H' : Hp), Ex H H' → Dp K H' v' (frD p) → Q v' H' := hQ
  refine ⟨_, pss_cons (ps_set (i := 3) sc_mark.nd rfl (.inl rfl) (pe_callH (Lt.mono (by decide)) hr (pa2 (pv 2) (pe_fld (pv 0) rfl))))
    (pss_cons (ps_for PassesOwn.never rfl (pi_list (pe_fld (pv 0) rfl)) (pg_tup (by rfl) (pgs_cons (pg_name (i := 4) sc_mark.nd rfl (.inl rfl)) (pgs_cons (pg_name (i := 5) sc_mark.nd rfl (.inl rfl)) (pgs_cons (pg_name (i := 6) sc_mark.nd rfl (.inl rfl)) pgs_nil))))
      (pss_one (ps_if (pt_val (pe_callH (Lb.mono (k := 3) (by decide)) hr (pa2 (pv 1) (pv 5))))
        (pss_cons (ps_set (i := 7) sc_mark.nd rfl (.inl rfl) (pe_callH (Lg.mono (k := 3) (by decide)) hr (pa2 (pv 4) (pv 1))))
        (pss_cons (ps_set (i := 8) sc_mark.nd rfl (.inl rfl) (pe_callH (Lt.mono (k := 3) (by decide)) hr (pa2 (pv 6) (pe_callH (Lm.mono (k := 3) (by decide)) hr (pa2 (pv 5) (pv 7))))))
        (pss_cons (ps_if (pt_not (pt_val (pe_callH (Lb.mono (k := 3) (by decide)) hr (pa2 (pv 8) (pv 3))))) (pss_one (ps_ret (pe_callH (Lp.mono (k := 3) (by decide)) hr (pa2 (pv 7) (pe_callH (Lo.mono (k := 3) (by decide)) hr (pa2 (pv 3) (pv 6))))))) pss_nil)
        (pss_one (ps_set (i := 3) sc_mark.nd rfl (.inl rfl) (pe_callH (Lm.mono (k := 3) (by decide)) hr (pa2 (pv 3) (pv 8)))))))) pss_nil)))
    (pss_one (ps_ret pe_non))), ?_⟩
  refine q_asgD (d := frD (q * tot T)) (ed_call (ead_cons (ed_var rfl hvq) (ead_cons (ed_total c rfl hT) ead_nil)) (R_times hq0 (Rat.le_of_lt g.tot_pos) hqb (area_bd g hG (on0 G) (on1 G)))) fun vf H1 e1 hf => ?_
  refine q_forRows (T := T) c rfl (hT.mono e1).rows (fun i σ H' => ∃ lf vf x4 x5 x6 x7 x8, σ = [some v, some vs, some vq, some vf, x4, x5, x6, x7, x8] ∧ Ex H1 H' ∧ Dp K H' vf (frD lf) ∧ markR ((rowsOf 0 T).drop i) s lf = some p ∧ Gr G lf ∧ 0 < lf ∧ lf ≤ ((8000 : Nat) : Rat))
    (fun H2 e2 => ⟨q * tot T, vf, none, none, none, none, none, rfl, e2, hf.mono e2, ?_, hgr0, hp0, ?_⟩) (fun i σ' H' p => ?_) (fun i r x σ' H' hr' hx p => ?_) fun σ' H' p => ?_
  · rw [List.drop_zero, markR_rows]
    exact hp
  · have := g.tot_le s 1
    grind
  · obtain ⟨_, _, _, _, _, _, _, _, h1, _⟩ := p
    exact h1
  · obtain ⟨lf, vf', x4, x5, x6, x7, x8, rfl, hE, hfv, hmk, hgr, h0, hle⟩ := p
    obtain ⟨hb, hl, hbl, w1, w2, i8⟩ := row_at g hG hr'
    obtain ⟨b, l, wt⟩ := r
    have hE0 := e1.trans hE
    refine gtup3 hx fun vb vl vw kb kl kw => ?_
    have bb := hb.bd hG
    have bl := hl.bd hG
    have bs := hs.bd hG
    have clo := cutLow_on hb hs
    have blf : Bd 2000 lf := bdG hG.1 hG.2.1 hgr (by grind) hle (by decide)
    have edrop : (rowsOf 0 T).drop i = (b, l, wt) :: (rowsOf 0 T).drop (i + 1) := by
      obtain ⟨hi, e⟩ := List.getElem?_eq_some_iff.mp hr'
      rw [← e, List.drop_eq_getElem_cons hi]
    rw [edrop] at hmk
    have hmk : (if s < l then if (wt : Rat) * (l - cutLow b s) < lf then markR ((rowsOf 0 T).drop (i + 1)) s (lf - (wt : Rat) * (l - cutLow b s)) else some (cutLow b s + lf / (wt : Rat)) else markR ((rowsOf 0 T).drop (i + 1)) s lf) = some p := hmk
    refine s_when (b := decide (s < l)) (et_B (ev_bl (ed_call (ead_cons (ed_var rfl (hvs.mono hE0)) (ead_cons (ed_var rfl kl) ead_nil)) (R_lt bs bl)))) (fun hc H2 e2 => ?_) fun hc H2 e2 => ?_
    · have hsl : s < l := of_decide_eq_true hc
      rw [if_pos hsl] at hmk
      have hcl : cutLow b s < l := by unfold cutLow; grind
      refine q_asgD (d := frD (cutLow b s)) (ed_call (ead_cons (ed_var rfl (kb.mono e2)) (ead_cons (ed_var rfl (hvs.mono (hE0.trans e2))) ead_nil)) ⟨b, s, rfl, bb, bs, rfl⟩) fun v7 H3 e3 k7 => ?_
      have b1 : Bd 2000 (l - cutLow b s) := bd1 hG.1 hG.2.1 (hl.2.2.sub clo.2.2) (by grind) (by have := hl.2.1; have := clo.1; grind)
      have gA : Gr G ((wt : Rat) * (l - cutLow b s)) := (hl.2.2.sub clo.2.2).nmul wt
      have wp := wpos w1
      have aA : (0 : Rat) < (wt : Rat) * (l - cutLow b s) := Rat.mul_pos wp (by grind)
      have lA : (wt : Rat) * (l - cutLow b s) ≤ ((1000 : Nat) : Rat) := by
        have h2 : l - cutLow b s ≤ 1 := by have := hl.2.1; have := clo.1; grind
        have h3 := Rat.mul_le_mul_of_nonneg_left h2 (Rat.le_of_lt wp)
        have h4 := w1000 w2
        have h5 : ((1000 : Nat) : Rat) = 1000 := rfl
        grind
      have bA : Bd 2000 ((wt : Rat) * (l - cutLow b s)) := bdG hG.1 hG.2.1 gA (Rat.le_of_lt aA) lA (by decide)
      refine q_asgD (d := frD ((wt : Rat) * (l - cutLow b s))) (ed_call (ds := [frD (wt : Rat), frD (l - cutLow b s)]) (ead_cons (ed_var rfl (kw.mono (e2.trans e3))) (ead_cons (ed_call (ead_cons (ed_var rfl (kl.mono (e2.trans e3))) (ead_cons (ed_var rfl k7) ead_nil)) (R_minus (by grind) bl (clo.bd hG))) ead_nil)) (R_times Rat.natCast_nonneg (by grind) (bdn w2) b1)) fun v8 H4 e4 k8 => ?_
      have e24 := (e2.trans e3).trans e4
      refine q_when (b := !decide ((wt : Rat) * (l - cutLow b s) < lf)) (et_not (et_B (ev_bl (ed_call (ead_cons (ed_var rfl k8) (ead_cons (ed_var rfl (hfv.mono e24)) ead_nil)) (R_lt bA blf))))) (fun hd H5 e5 => ?_) fun hd H5 e5 => ?_
      · have hn : ¬ (wt : Rat) * (l - cutLow b s) < lf := by
          intro z
          rw [decide_eq_true z] at hd
          cases hd
        rw [if_neg hn] at hmk
        have q2 := div_w_pos w1 h0
        have q1 : lf / (wt : Rat) ≤ l - cutLow b s := div_w_le w1 (by grind)
        have bd : Bd 2000 (lf / (wt : Rat)) := bdG' (M := 1) (Nat.mul_pos hG.1 w1) (pow_w hG.2.1 w2) (hgr.divw w1) (Rat.le_of_lt q2) (by have := hl.2.1; have := clo.1; have : (((1 : Nat)) : Rat) = 1 := rfl; grind) (by decide)
        refine s_retD (d := frD p) (ed_call (ds := [frD (cutLow b s), frD (lf / (wt : Rat))]) (ead_cons (ed_var rfl (k7.mono (e4.trans e5))) (ead_cons (ed_call (ead_cons (ed_var rfl (hfv.mono (e24.trans e5))) (ead_cons (ed_var rfl (kw.mono (e24.trans e5))) ead_nil)) (R_over (Rat.le_of_lt h0) wp blf (bdn w2))) ead_nil)) ?_) fun v9 H6 e6 k9 => hQ v9 H6 (((hE0.trans e24).trans e5).trans e6) k9
        cases hmk
        exact R_plus clo.1 (Rat.le_of_lt q2) (clo.bd hG) bd
      · have hn : (wt : Rat) * (l - cutLow b s) < lf := by
          refine Decidable.byContradiction fun z => ?_
          rw [decide_eq_false z] at hd
          cases hd
        rw [if_pos hn] at hmk
        refine s_asgD (d := frD (lf - (wt : Rat) * (l - cutLow b s))) (ed_call (ead_cons (ed_var rfl (hfv.mono (e24.trans e5))) (ead_cons (ed_var rfl (k8.mono e5)) ead_nil)) (R_minus (by grind) blf bA)) fun v9 H6 e6 k9 => ?_
        exact ⟨_, v9, _, _, _, _, _, rfl, ((hE.trans e24).trans e5).trans e6, k9, hmk, hgr.sub gA, by grind, by grind⟩
    · have hsl : ¬ s < l := of_decide_eq_false hc
      rw [if_neg hsl] at hmk
      exact ⟨lf, vf', _, _, _, _, _, rfl, hE.trans e2, hfv.mono e2, hmk, hgr, h0, hle⟩
  · obtain ⟨lf, vf', x4, x5, x6, x7, x8, rfl, hE, hfv, hmk, _⟩ := p
    rw [List.drop_length] at hmk
    cases hmk
end
end Fk
end
section
set_option Elab.async false
set_option linter.all false
set_option maxRecDepth 100000
set_option maxHeartbeats 1000000
namespace Fk
open PySem PySem.Spec PyProof.Rows L2 Evl
section
variable {P : Program} {w : World} {K : PySem.W.Frag} {mg : Str → Option Value} {base : Heap} {C : Addr}
theorem dps1 {H : Hp} {vs : List V} {d : PyData} (h : DpAll K H vs [d]) : ∃ v, vs = [v] ∧ Dp K H v d := by
  cases h with
  | cons h1 h2 =>
    cases h2
    exact ⟨_, rfl, h1⟩
/-! ### is_step -/
def R_isstep : List PyData → PyData → Prop := fun ds d => ∃ x : Rat × Nat, ds = [stepD x] ∧ 0 ≤ x.1 ∧ Bd 2000 x.1 ∧ x.1.den ≤ 1000 ∧ 1 ≤ x.2 ∧ x.2 ≤ 1000 ∧ d = .bool true
theorem ok_isstep {f : Addr} {fd : FuncData} (F : Fun K "is_step" "is_step" sIsStep f fd) (W : Has P w K mg base "is_whole" 1 ["number"] (spP K R_wh)) (L : Has P w K mg base "is_fraction" 2 ["thing"] (spP K R_isfr)) (gH : GlobI mg "HEAVIEST" 1000) (mi : mg "isinstance" = none) (mt : mg "tuple" = none) (ml : mg "len" = none) :
    FnOk P w K mg base CX0 3 f fd ["thing"] (spP K R_isstep) := by
  obtain ⟨tH, mH⟩ := gH
  refine okP F sc_isstep (fun ds d h => by obtain ⟨a, rfl, _⟩ := h; rfl) fun cdv A outer s H vs Q E ds d hr hv hR hQ => ?_
  obtain ⟨x, rfl, h0, hb, hd, w1, w2, rfl⟩ := hR
  obtain ⟨v, rfl, hv1⟩ := dps1 hv
  refine ⟨_, pss_cons (ps_if (PW.pt (pw_or (pt_not (pt_val (pe_isi (pv 0) mi mt boot_tuple))) (pw_or (pt_cmpR op_ne (pe_callB call_len_seq (by rfl) ml PySem.boot_len (pa1 (pv 0))) pe_int (nomark _))
      (pw_or (pt_not (pt_val (pe_callH L hr (pa1 (ix (pv 0) pe_int))))) (pw_or1 (pt_not (pt_val (pe_callH (W.mono (by decide)) hr (pa1 (ix (pv 0) pe_int))))))))))
      (pss_one (ps_ret pe_bl)) pss_nil)
    (pss_one (ps_ret (pe_and (pe_chain op_le op_le pe_int (ix (ix (pv 0) pe_int) pe_int) (pe_gli mH)) (pe_one (pe_chain op_le op_le pe_int (ix (pv 0) pe_int) (pe_gli mH)))))), ?_⟩
  have ehv : ∀ {H1}, Ex H H1 → EvD K (tVar 0) [some v] H1 (.tuple [frD x.1, .int (x.2 : Int)]) := fun e => ed_var rfl (hv1.mono e)
  have e0 := Ex.refl H
  refine q_when (b := false) (et_or (a := false) (b := false) (et_not (a := true) (et_B (ev_isi (ety_tup (ehv e0)) (.ty _) (kit_ty (by decide +kernel))))) fun _ =>
    et_or (a := false) (b := false) (et_test (ev_is (ev_op (ev_lenT (ehv e0)) ev_c (rv_ne rfl)) rfl)) fun _ =>
    et_or (a := false) (b := false) (et_not (a := true) (et_B (ev_bl (ed_call (ead_cons (ed_ixT (ehv e0) ev_c rfl) ead_nil) ⟨_, rfl, h0, hb, rfl⟩)))) fun _ =>
      et_not (a := true) (et_B (ev_bl (ed_call (ead_cons (ed_ixT (ehv e0) ev_c rfl) ead_nil) ⟨_, rfl, rfl⟩)))) (fun hb => by cases hb) fun _ H1 e1 => ?_
  have dp := den_pos x.1
  refine s_ret (v := .bl true) (ev_is (ev_andV (ev_chain ev_c (ev_pr1 (ed_ixT (ehv e1) ev_c rfl)) (fun _ => ev_c) rv_I0 rv_I0) fun _ => ev_chain ev_c (ev_int (ed_ixT (ehv e1) ev_c rfl)) (fun _ => ev_c) rv_I0 rv_I0) ?_) fun H2 e2 => hQ _ H2 (e1.trans e2) (.bl true)
  rw [decide_eq_true (show (1 : Int) ≤ (x.1.den : Int) by omega), decide_eq_true (show (x.1.den : Int) ≤ 1000 by omega), decide_eq_true (show (1 : Int) ≤ (x.2 : Int) by omega), decide_eq_true (show (x.2 : Int) ≤ 1000 by omega)]
  rfl
/-! ### check_steps -/
theorem Good.gt {T : Steps} (g : Good T) : ∃ P, GT P T ∧ P ≤ 1000 := by
  obtain ⟨P, h1, h2, h3⟩ := g.grid
  refine ⟨P, ⟨h1, ?_, h3⟩, h2⟩
  exact Nat.le_trans (show P ≤ 2 ^ 10 by omega) (Nat.pow_le_pow_right (by decide) (by decide))
theorem Good.step {T : Steps} (g : Good T) {x : Rat × Nat} (h : x ∈ T) : 0 ≤ x.1 ∧ Bd 2000 x.1 ∧ x.1.den ≤ 1000 ∧ 1 ≤ x.2 ∧ x.2 ≤ 1000 := by
  obtain ⟨P, hG, hP⟩ := g.gt
  obtain ⟨i, hi⟩ := List.mem_iff_getElem?.mp h
  obtain ⟨l, w⟩ := x
  obtain ⟨c, h1, h2, h3, h4, h5, h6, h7⟩ := Val.at g.val hi
  have gl := hG.2.2 _ h
  have hl : On P l := ⟨by grind, h5, gl⟩
  exact ⟨hl.1, hl.bd hG, Nat.le_trans (Nat.le_of_dvd hG.1 (Gr.den hG.1 gl)) hP, h6, h7⟩
def R_chk : List PyData → PyData → Prop := fun ds d => ∃ T, ds = [stepsD T] ∧ Good T ∧ d = .none
theorem begs_bd {T : Steps} (g : Good T) {i : Nat} {c : Rat} (h : (begs 0 T)[i]? = some c) : Bd 2000 c := by
  obtain ⟨P, hG, hP⟩ := g.gt
  have m := List.mem_of_getElem? h
  unfold begs at m
  rcases List.mem_cons.mp m with rfl | m
  · exact (on0 P).bd hG
  · obtain ⟨x, hx, rfl⟩ := List.mem_map.mp m
    exact (g.step hx).2.1
theorem boot_all : bootBuiltins "all" = some (.builtin "all") := by decide +kernel
theorem boot_any : bootBuiltins "any" = some (.builtin "any") := by decide +kernel
theorem map_get {α : Type} {xs : List α} {a : α → PyData} {i : Nat} {d : PyData} (h : (xs.map a)[i]? = some d) : ∃ x, xs[i]? = some x ∧ d = a x := by
  rw [List.getElem?_map] at h
  cases hx : xs[i]? with
  | none => rw [hx] at h; cases h
  | some x =>
    rw [hx] at h
    exact ⟨x, rfl, (Option.some.inj h).symm⟩
theorem ok_check {f : Addr} {fd : FuncData} (F : Fun K "check_steps" "check_steps" sCheck f fd) (S : Has P w K mg base "is_step" 3 ["thing"] (spP K R_isstep)) (B : Has P w K mg base "below" 1 ["one", "other"] (spP K R_below)) (gM : GlobI mg "MOST" 8) (gN : GlobF K mg "NOUGHT" 0) (gO : GlobF K mg "ONE" 1)
    (mi : mg "isinstance" = none) (mt : mg "list" = none) (ml : mg "len" = none) (ma : mg "all" = none) : FnOk P w K mg base CX0 4 f fd ["steps"] (spP K R_chk) := by
  obtain ⟨tM, mM⟩ := gM
  obtain ⟨aN, mN, dN⟩ := gN
  obtain ⟨aO, mO, dO⟩ := gO
  refine okP F sc_check (fun ds d h => by obtain ⟨a, rfl, _⟩ := h; rfl) fun cdv A outer s H vs Q E ds d hr hv hR hQ => ?_
  obtain ⟨T, rfl, g, rfl⟩ := hR
  obtain ⟨v, rfl, hv1⟩ := dps1 hv
  refine ⟨_, pss_cons (ps_if (PW.pt (pw_or (pt_not (pt_val (pe_isi (pv 0) mi mt boot_list))) (pw_or (pt_not (pt_chain op_le op_le pe_int (pe_callB call_len_seq (by rfl) ml PySem.boot_len (pa1 (pv 0))) (pe_gli mM)))
      (pw_or1 (pt_not (pt_val (pe_callB (cr_all rfl) (by rfl) ma boot_all (pa1
        (pe_lc (own := [("one", 4)]) (g := gName 4) (tt := tYes) (by rfl) sc_check.nd (pi_list (pv 0)) (blkOk_by (own := [("one", 4)]) (N := ["steps", "last", "end", "weight", "one"]) (sc := defScope sCheck) (by decide +kernel))
          (fun _ _ _ _ _ => pg_name (i := 4) sc_check.nd rfl (Or.inl rfl)) (fun _ _ _ _ _ => pts_nil) (fun _ _ _ _ _ => pe_callH S hr (pa1 (pv 4)))))))))))) (pss_one ps_never) pss_nil)
    (pss_cons (ps_set (i := 1) sc_check.nd rfl (.inl rfl) (pe_gl mN))
    (pss_cons (ps_for PassesOwn.never rfl (pi_list (pv 0)) (pg_tup (by rfl) (pgs_cons (pg_name (i := 2) sc_check.nd rfl (.inl rfl)) (pgs_cons (pg_name (i := 3) sc_check.nd rfl (.inl rfl)) pgs_nil)))
      (pss_cons (ps_if (pt_not (pt_val (pe_callH (B.mono (by decide)) hr (pa2 (pv 1) (pv 2))))) (pss_one ps_never) pss_nil) (pss_one (ps_set (i := 1) sc_check.nd rfl (.inl rfl) (pv 2)))))
    (pss_one (ps_if (pt_cmpR (op_neD hr.units) (pv 1) (pe_gl mO) (nomark _)) (pss_one ps_never) pss_nil)))), ?_⟩
  have ehv : ∀ {H1}, Ex H H1 → EvD K (tVar 0) [some v, none, none, none, none] H1 (.list (T.map stepD)) := fun e => ed_var rfl (hv1.mono e)
  have e0 := Ex.refl H
  have o1 := g.one
  have m1 := g.most
  refine q_when (b := false) (et_or (a := false) (b := false) (et_not (a := true) (et_B (ev_isi (ety_lst (ehv e0)) (.ty _) (kit_ty (by decide +kernel))))) fun _ =>
    et_or (a := false) (b := false) (et_is (et_not (et_chain ev_c (ev_lenL (ehv e0)) (fun _ => ev_c) rv_I0 rv_I0)) ?_) fun _ =>
      et_is (et_not (et_B (ev_all (bs := (T.filter fun _ => true).map fun _ => true) ?_))) ?_) (fun hb => by cases hb) fun _ H1 e1 => ?_
  · rw [List.length_map, decide_eq_true (show (1 : Int) ≤ (T.length : Int) by omega), decide_eq_true (show (T.length : Int) ≤ 8 by omega)]
    rfl
  · rw [List.map_map]
    refine eld_lcT (n := 1) stepD (fun _ => true) _ (ehv e0) (by omega) (fun _ => rfl) (fun _ _ _ => rfl) fun x hx y H1 e1 hy => ⟨et_yes, fun _ => ed_call (ead_cons (ed_var rfl hy) ead_nil) ?_⟩
    obtain ⟨q1, q2, q3, q4, q5⟩ := g.step hx
    exact ⟨x, rfl, q1, q2, q3, q4, q5, rfl⟩
  · simp
  · refine q_asgD (d := frD 0) (ed_c (dN H1)) fun v2 H2 e2 k2 => ?_
    refine q_forV (ds := T.map stepD) rfl (hv1.mono (e1.trans e2)) (fun i σ H' => ∃ vl x2 x3 x4 c, σ = [some v, some vl, x2, x3, x4] ∧ Ex H2 H' ∧ (begs 0 T)[i]? = some c ∧ Dp K H' vl (frD c)) (fun H3 e3 => ⟨_, _, _, _, 0, rfl, e3, rfl, k2.mono e3⟩) (fun i σ' H' p => ?_) (fun i d x σ' H' hd hx p => ?_) fun σ' H' p => ?_
    · obtain ⟨_, _, _, _, _, _, h1, _⟩ := p
      exact h1
    · obtain ⟨vl, x2, x3, x4, c, rfl, hE, hc, hvl⟩ := p
      obtain ⟨⟨l, wt⟩, ht, rfl⟩ := map_get hd
      obtain ⟨c', h1, h2, h3, h4, h5, h6, h7⟩ := Val.at g.val ht
      obtain rfl : c = c' := Option.some.inj (hc.symm.trans h1)
      refine gtup2 hx fun ve vw ke kw => ?_
      refine q_when (b := false) (et_is (et_not (et_B (ev_bl (ed_call (ead_cons (ed_var rfl hvl) (ead_cons (ed_var rfl ke) ead_nil)) (R_lt (begs_bd g hc) (g.step (List.mem_of_getElem? ht)).2.1))))) ?_) (fun hb => by cases hb) fun _ H3 e3 => ?_
      · rw [decide_eq_true h4]
        rfl
      · refine s_asgD (d := frD l) (ed_var rfl (ke.mono e3)) fun v4 H4 e4 k4 => ?_
        exact ⟨v4, _, _, _, l, rfl, (hE.trans e3).trans e4, begs_next ht, k4⟩
    · obtain ⟨vl, x2, x3, x4, c, rfl, hE, hc, hvl⟩ := p
      rw [List.length_map, Val.last g.val] at hc
      cases hc
      refine s_when (b := false) (et_is (et_test (ev_neD (n := 1) (m := 1) (p := True) (ed_var rfl hvl) (ed_c (dO H')) rfl rfl (iff_of_true rfl trivial))) (by simp)) (fun hb => by cases hb) fun _ H3 e3 => ?_
      exact hQ .non H3 (((e1.trans e2).trans hE).trans e3) .non
end
end Fk
end
section
set_option Elab.async false
set_option linter.all false
set_option maxRecDepth 100000
set_option maxHeartbeats 1000000
namespace Fk
open PySem PySem.Spec PyProof.Rows L2 Evl
section
variable {P : Program} {w : World} {K : PySem.W.Frag} {mg : Str → Option Value} {base : Heap} {C : Addr} {H H' : Hp} {σ : L2.St} {v : V} {d : PyData} {ds : List PyData}
/-! ### an instance is no part of data -/
theorem sql_hidI {p : Addr} {dx : Addr} {fs : List (Str × V)} (hp : H p = some (.ins C dx fs)) : ∀ a ys, SqL K H a ys → SqL K (hid p H) a ys := fun a ys h => by
  have hne : ∀ o, H a = some o → (∀ C dx zs, o ≠ .ins C dx zs) → hid p H a = some o := fun o e z => by
    rw [hid_ne]
    · exact e
    · intro q
      rw [q, hp] at e
      exact z _ _ _ (Option.some.inj e).symm
  rcases h with (h | ⟨o, h⟩) | h
  · exact .inl (.inl (hne _ h fun _ _ zs q => by cases q))
  · exact .inl (.inr ⟨o, hne _ h fun _ _ zs q => by cases q⟩)
  · exact .inr h
theorem sqt_hidI {p : Addr} {dx : Addr} {fs : List (Str × V)} (hp : H p = some (.ins C dx fs)) : ∀ a ys, SqT K H a ys → SqT K (hid p H) a ys := fun a ys h => by
  have hne : ∀ o, H a = some o → (∀ C dx zs, o ≠ .ins C dx zs) → hid p H a = some o := fun o e z => by
    rw [hid_ne]
    · exact e
    · intro q
      rw [q, hp] at e
      exact z _ _ _ (Option.some.inj e).symm
  rcases h with (h | ⟨o, h⟩) | h
  · exact .inl (.inl (hne _ h fun _ _ zs q => by cases q))
  · exact .inl (.inr ⟨o, hne _ h fun _ _ zs q => by cases q⟩)
  · exact .inr h
theorem _root_.L2.Dp.hidI {p : Addr} {dx : Addr} {fs : List (Str × V)} (hp : H p = some (.ins C dx fs)) (h : Dp K H v d) : Dp K (hid p H) v d := dp_keep (sql_hidI hp) (sqt_hidI hp) d v h
theorem ex_hid_upd {p : Addr} {o : HO} : Ex (hid p H) (upd H p o) := by
  rw [← hid_upd (o := o)]
  exact hid_ex
theorem _root_.L2.Dp.updI {p : Addr} {dx : Addr} {fs : List (Str × V)} {o : HO} (hp : H p = some (.ins C dx fs)) (h : Dp K H v d) : Dp K (upd H p o) v d := (h.hidI hp).mono ex_hid_upd
/-- self.f = e -/
theorem q_fldD {i : Nat} {te : TE} {f : Str} {D : Ends} {tz : TS} {p dx : Addr} {fs : List (Str × V)} (hi : σ[i]? = some (some (.ref p))) (hp : H p = some (.ins C dx fs)) (c : Cls K C) (n : NoAttr K C f) (hl : fs.length < 1000) (h : EvD K te σ H d)
    (k : ∀ v H1, Ex H H1 → Dp K H1 v d → tz D σ (upd H1 p (.ins C dx (putF f v fs)))) : tSeq (sFld K (tVar i) te f) tz D σ H := h H (Ex.refl H) _ fun v H1 e1 hv => ⟨_, hi, p, C, dx, fs, rfl, e1 _ _ hp, c, n, hl, k v H1 e1 hv⟩
theorem s_fldD {i : Nat} {te : TE} {f : Str} {D : Ends} {p dx : Addr} {fs : List (Str × V)} (hi : σ[i]? = some (some (.ref p))) (hp : H p = some (.ins C dx fs)) (c : Cls K C) (n : NoAttr K C f) (hl : fs.length < 1000) (h : EvD K te σ H d)
    (k : ∀ v H1, Ex H H1 → Dp K H1 v d → D.nx σ (upd H1 p (.ins C dx (putF f v fs)))) : sFld K (tVar i) te f D σ H := h H (Ex.refl H) _ fun v H1 e1 hv => ⟨_, hi, p, C, dx, fs, rfl, e1 _ _ hp, c, n, hl, k v H1 e1 hv⟩
theorem q_fldL {i : Nat} {te : TE} {f : Str} {D : Ends} {tz : TS} {p dx : Addr} {fs : List (Str × V)} (hi : σ[i]? = some (some (.ref p))) (hp : H p = some (.ins C dx fs)) (c : Cls K C) (n : NoAttr K C f) (hl : fs.length < 1000) (h : EvLD K te σ H ds)
    (k : ∀ l vs H1, H l = none → Ex H H1 → H1 l = some (.lst vs) → DpAll K H1 vs ds → tz D σ (upd H1 p (.ins C dx (putF f (.ref l) fs)))) : tSeq (sFld K (tVar i) te f) tz D σ H := h H (Ex.refl H) _ fun l vs H1 h0 e1 h1 hv => ⟨_, hi, p, C, dx, fs, rfl, e1 _ _ hp, c, n, hl, k l vs H1 h0 e1 h1 hv⟩
theorem putF_len (f : Str) (v : V) (fs : List (Str × V)) (n : Nat) (h : fs.length < n) : (putF f v fs).length < n + 1 := Nat.lt_of_le_of_lt (length_putF f v fs) (Nat.succ_lt_succ h)
/-! ### __init__ -/
def spInit (K : PySem.W.Frag) (C : Addr) : Sp := fun vs H Q _ => ∃ p dx v T, vs = [.ref p, v] ∧ H p = some (.ins C dx []) ∧ Dp K H v (stepsD T) ∧ Good T ∧ ∀ H' l ws t, H' p = some (.ins C dx (f2 l t)) → l ≠ p → H l = none → H' l = some (.lst ws) → DpAll K H' ws ((rowsOf 0 T).map rowD) → Dp K H' t (frD (tot T)) → Ex (hid p H) H' → Q .non H'
theorem rows_take {T : Steps} {i : Nat} {l : Rat} {wt : Nat} {c : Rat} (ht : T[i]? = some (l, wt)) (hr : (rowsOf 0 T)[i]? = some (c, l, wt)) : ((rowsOf 0 T).take (i + 1)).map rowD = ((rowsOf 0 T).take i).map rowD ++ [rowD (c, l, wt)] := by
  rw [List.take_add_one, hr, List.map_append]
  rfl
theorem ok_init {f : Addr} {fd : FuncData} (F : Fun K "__init__" "Taste.__init__" sInit f fd) (c : TCls K C) (gN : GlobF K mg "NOUGHT" 0) (gO : GlobF K mg "ONE" 1) (Lc : Has P w K mg base "check_steps" 4 ["steps"] (spP K R_chk)) (Ma : HasM P w K mg base C "area" 3 ["self", "start", "end"] (spM (RowsAt K C) K R_area)) :
    FnOk P w K mg base CX0 5 f fd ["self", "steps"] (spInit K C) := by
  obtain ⟨aN, mN, dN⟩ := gN
  obtain ⟨aO, mO, dO⟩ := gO
  refine F.ok sc_init (fun vs H Q E h => by obtain ⟨p, dx, v, T, rfl, _⟩ := h; rfl) fun cdv A outer s0 H vs Q E hr h => ?_
  obtain ⟨p, dx, v, T, rfl, hp, hv, g, hQ⟩ := h
  refine ⟨_, pss_cons (ps_expr (pe_callH Lc hr (pa1 (pv 1)))) (pss_cons (ps_fld (pv 0) (pe_lst pa_nil) rfl) (pss_cons (ps_set (i := 2) sc_init.nd rfl (.inl rfl) (pe_gl mN))
    (pss_cons (ps_for PassesOwn.never rfl (pi_list (pv 1)) (pg_tup (by rfl) (pgs_cons (pg_name (i := 3) sc_init.nd rfl (.inl rfl)) (pgs_cons (pg_name (i := 4) sc_init.nd rfl (.inl rfl)) pgs_nil)))
      (pss_cons (ps_expr (pe_bm PySem.F.plainAttrs_list PySem.F.slot_list_append PySem.F.type_list_append mt_append (pe_fld (pv 0) rfl) (pa1 (pe_tup (pa_cons (pv 2) (pa_cons (pv 3) (pa_cons (pe_tup (pa2 (pv 4) pe_int)) pa_nil)))))))
        (pss_one (ps_set (i := 2) sc_init.nd rfl (.inl rfl) (pv 3)))))
    (pss_one (ps_fld (pv 0) (pe_methH (pv 0) c.cl (Ma.imp fun _ h => h) (hr.mono (by decide)) (pa2 (pe_gl mN) (pe_gl mO))) rfl))))), ?_⟩
  refine q_dropD (ed_call (ead_cons (ed_var rfl hv) ead_nil) ⟨T, rfl, g, rfl⟩) fun H1 e1 => ?_
  refine q_fldL rfl (e1 _ _ hp) c.cl c.nR (by show 0 < 1000; decide) (eld_lst ead_nil (Nat.zero_le _)) fun l vs H2 hl0 e2 hl hvs => ?_
  obtain rfl : vs = [] := by cases hvs; rfl
  have e02 := e1.trans e2
  have hlp : l ≠ p := fun q => by
    rw [q, e1 _ _ hp] at hl0
    cases hl0
  have hp2 := e02 _ _ hp
  refine q_asgD (d := frD 0) (ed_c (dN _)) fun v2 H3 e3 k2 => ?_
  have ex0 : Ex (hid p H) H3 := ((hid_mono e02).trans ex_hid_upd).trans e3
  have hvp : Dp K (hid p H) v (stepsD T) := hv.hidI hp
  have hlH : H l = none := fresh_back e1 hl0
  have hlh : hid p H l = none := by rw [hid_ne hlp]; exact hlH
  refine q_forW (ds := T.map stepD) rfl hvp ex0 (fun i σ H' => ∃ vl x3 x4 cc vs, σ = [some (.ref p), some v, some vl, x3, x4] ∧ Ex (hid p H) H' ∧ H' p = some (.ins C dx (f1 l)) ∧ H' l = some (.lst vs) ∧ DpAll K H' vs (((rowsOf 0 T).take i).map rowD) ∧ (begs 0 T)[i]? = some cc ∧ Dp K H' vl (frD cc))
    (fun H4 e4 => ⟨v2, none, none, 0, [], rfl, ex0.trans e4, e4 _ _ (e3 _ _ upd_same), e4 _ _ (e3 _ _ (by rw [upd_ne hlp]; exact hl)), .nil, rfl, k2.mono e4⟩) (fun i σ' H' p => ?_) (fun i d x σ' H' hd hx q => ?_) fun σ' H' q => ?_
  · obtain ⟨_, _, _, _, _, _, h1, _⟩ := p
    exact h1
  · obtain ⟨vl, x3, x4, cc, vs, rfl, hE, hpp, hll, hds, hc, hvl⟩ := q
    obtain ⟨⟨z, wt⟩, ht, rfl⟩ := map_get hd
    obtain ⟨c', h1, h2, h3, h4, h5, h6, h7⟩ := Val.at g.val ht
    obtain rfl : cc = c' := Option.some.inj (hc.symm.trans h1)
    have i8 : i < 8 := by
      have := (List.getElem?_eq_some_iff.mp ht).1
      have := g.most
      omega
    refine gtup2 hx fun ve vw ke kw => ?_
    have ev : Ev (tFld K (tVar 0) "rows") [some (.ref p), some v, some vl, some ve, some vw] H' (.ref l) := fun H4 x4 Q q => ⟨_, rfl, p, C, dx, _, _, rfl, x4 _ _ hpp, c.cl, c.nR, f1_rows l, q H4 (Ex.refl H4)⟩
    refine q_appD (d := rowD (cc, z, wt)) hll ev (ed_tup (ead_cons (ed_var rfl hvl) (ead_cons (ed_var rfl ke) (ead_cons (ed_tup (ead_cons (ed_var rfl kw) (ead_cons (ed_int ev_c) ead_nil)) (by show 2 ≤ 100000; decide)) ead_nil))) (by show 3 ≤ 100000; decide)) ?_ fun v5 H5 e5 k5 => ?_
    · rw [hds.len, List.length_map, List.length_take]
      omega
    · have hl5 := e5 _ _ hll
      have hpl : p ≠ l := fun q => hlp q.symm
      refine s_asgD (d := frD z) (ed_var rfl ((ke.mono e5).upd hl5 (n := 1) rfl)) fun v6 H6 e6 k6 => ?_
      have e56 : Ex (hid p H) (upd H5 l (.lst (vs ++ [v5]))) := fun b o hb => by
        rw [upd_ne (ne_of_none hb hlh)]
        exact e5 _ _ (hE _ _ hb)
      refine ⟨v6, _, _, z, vs ++ [v5], rfl, e56.trans e6, e6 _ _ (by rw [upd_ne hpl]; exact e5 _ _ hpp), e6 _ _ upd_same, ?_, begs_next ht, k6⟩
      rw [rows_take ht h2]
      refine DpAll.mono e6 (DpAll.upd hl5 (n := 2) ?_ ((hds.mono e5).app (.one k5)))
      rw [List.all_append, List.all_map]
      simp [rowD_nl, Function.comp_def]
  · obtain ⟨vl, x3, x4, cc, vs, rfl, hE, hpp, hll, hds, hc, hvl⟩ := q
    rw [List.length_map] at hds
    have et : (rowsOf 0 T).take T.length = rowsOf 0 T := List.take_of_length_le (by rw [rowsOf_len]; exact Nat.le_refl _)
    rw [et] at hds
    have hR : RowsAt K C H' (.ref p) T := ⟨p, dx, _, l, rfl, hpp, f1_rows l, fun m q1 _ => f1_no l q1, .lst (SqL.of hll) hds⟩
    obtain ⟨P', hG, hP⟩ := g.gt
    refine s_fldD rfl hpp c.cl c.nT (putF_len _ _ [] _ (by show 0 < 999; decide)) (ed_methR (ev_var rfl) hR (ead_cons (ed_c (dN _)) (ead_cons (ed_c (dO _)) ead_nil)) ⟨g, 0, 1, P', rfl, hG, on0 P', on1 P', rfl⟩) fun v7 H7 e7 k7 => ?_
    refine hQ _ l vs v7 upd_same hlp hlH (by rw [upd_ne hlp]; exact e7 _ _ hll) ?_ ?_ ?_
    · exact DpAll.mono ex_hid_upd (dps_keep (sql_hidI (e7 _ _ hpp)) (sqt_hidI (e7 _ _ hpp)) _ _ (hds.mono e7))
    · exact Dp.updI (e7 _ _ hpp) k7
    · intro b o hb
      have nb : b ≠ p := fun q => by
        rw [q, hid_at] at hb
        cases hb
      rw [upd_ne nb]
      exact e7 _ _ (hE _ _ hb)
/-! ### steps -/
def spSteps (K : PySem.W.Frag) (C : Addr) : Sp := fun vs H Q _ => ∃ v T, vs = [v] ∧ RowsAt K C H v T ∧ T.length ≤ 8 ∧ ∀ p ws H', H p = none → Ex H H' → H' p = some (.lst ws) → DpAll K H' ws (T.map stepD) → Q (.ref p) H'
theorem rows_steps : ∀ (T : Steps) (b : Rat), (rowsOf b T).map (fun r => stepD (r.2.1, r.2.2)) = T.map stepD
  | [], _ => rfl
  | (l, w) :: r, b => by
    show stepD (l, w) :: (rowsOf l r).map (fun r => stepD (r.2.1, r.2.2)) = stepD (l, w) :: r.map stepD
    rw [rows_steps r l]
theorem ok_steps {f : Addr} {fd : FuncData} (F : Fun K "steps" "Taste.steps" sSteps f fd) (c : TCls K C) : FnOk P w K mg base CX0 1 f fd ["self"] (spSteps K C) := by
  refine F.ok sc_steps (fun vs H Q E h => by obtain ⟨v, T, rfl, _⟩ := h; rfl) fun cdv A outer s0 H vs Q E hr h => ?_
  obtain ⟨v, T, rfl, hT, h8, hQ⟩ := h
  refine ⟨_, pss_one (ps_ret (pe_lc (own := [("row", 1)]) (g := gName 1) (tt := tYes) (by rfl) sc_steps.nd (pi_list (pe_fld (pv 0) rfl)) (blkOk_by (own := [("row", 1)]) (N := ["self", "row"]) (sc := defScope sSteps) (by decide +kernel))
    (fun _ _ _ _ _ => pg_name (i := 1) sc_steps.nd rfl (Or.inl rfl)) (fun _ _ _ _ _ => pts_nil) (fun _ _ _ _ _ => pe_tup (pa2 (ixk K (pv 1) pe_int) (ixk K (ixk K (pv 1) pe_int) pe_int))))), ?_⟩
  refine s_retLD (ds := ((rowsOf 0 T).filter fun _ => true).map fun r => stepD (r.2.1, r.2.2)) (eld_lcT (n := 2) rowD (fun _ => true) _ (ed_rows c rfl hT) (by rw [rowsOf_len]; omega) (fun _ => rfl) (fun _ _ _ => rfl) fun x hx y H1 e1 hy => ⟨et_yes, fun _ => ed_tup (ead_cons (ed_ixT (ed_var rfl hy) ev_c rfl) (ead_cons (ed_ixT (ds := [.int _, .int _]) (ed_ixT (ed_var rfl hy) ev_c rfl) ev_c rfl) ead_nil)) (by show 2 ≤ 100000; decide)⟩) fun p ws H1 h0 e1 h1 hws => hQ p ws H1 h0 e1 h1 ?_
  rw [List.filter_eq_self.mpr (fun _ _ => rfl), rows_steps] at hws
  exact hws
end
end Fk
end
section
set_option Elab.async false
set_option linter.all false
set_option maxRecDepth 100000
set_option maxHeartbeats 1000000
namespace Fk
open PySem PySem.Spec PySem.W PyProof.Rows L2 Evl
/-! ### C() of a class without an __init__ of its own -/
section
variable {prog : Program} {w : World} {A : Around} {K : PySem.W.Frag} {C : Addr} {s : Shared} {R : Result → Shared → Prop}
theorem codeN (X : K.In s.heap) (hm : PySem.W.makesIn K C = true) (hi : PySem.W.findIn K (.ref C) "__init__" = some (some (.builtin "object.__init__")))
    (h : R (.ok (.ret (.ref (s.heap.objs.size + 1)))) { s with heap := (s.heap.push PySem.W.emptyDict).push (PySem.W.instObj C s.heap.objs.size) }) : codeAny (model prog w) A (.call (.ref C) ⟨[], []⟩) R s := by
  obtain ⟨hh, g, d, t, os⟩ := s
  have Y := PySem.W.makes_of (M := model prog w) X hm
  refine PySem.W.make_core Y (PySem.W.looks_findIn X hi) (fun self => Looks.of_pure (PySem.W.oi_bind self)) (.inr ⟨rfl, rfl⟩) ?_
  have e2 : ((hh.push PySem.W.emptyDict).push (PySem.W.instObj C hh.objs.size)).get? (hh.objs.size + 1) = some (PySem.W.instObj C hh.objs.size) := by
    have := Heap.get?_push_size (hh.push PySem.W.emptyDict) (o := PySem.W.instObj C hh.objs.size) rfl
    rwa [Heap.size_push] at this
  have t1 : Looks (model prog w) ((hh.push PySem.W.emptyDict).push (PySem.W.instObj C hh.objs.size)) (typeOf (.ref (hh.objs.size + 1))) (.ref C) := (Looks.ld e2).andThen .now
  have t2 : Looks (model prog w) ((hh.push PySem.W.emptyDict).push (PySem.W.instObj C hh.objs.size)) (isInstance (.ref (hh.objs.size + 1)) (.type "object")) true := t1.andThen (Y.top.keeps fun b o e => Heap.get?_push_of_some _ (Heap.get?_push_of_some _ e))
  refine codeAny_call_builtin PySem.W.oi_plain PySem.W.entry_oi (@check_slot (model prog w) _ _ _ "object.__init__" "object" "__init__" (.ref (hh.objs.size + 1)) [] [] _ PySem.W.oi_kind PySem.W.oi_split t2 (PySem.W.oi_args (.ref (hh.objs.size + 1))) ?_)
  rw [PySem.W.oi_run]
  exact wpAny_pure (And.intro rfl h)
end
structure MkN (K : PySem.W.Frag) (C : Addr) : Prop where
  makes : PySem.W.makesIn K C = true
  init : PySem.W.findIn K (.ref C) "__init__" = some (some (.builtin "object.__init__"))
  kp : PySem.W.keepIn K (.ref C) = true
def tMakeN (C : Addr) : TE := fun _ H Q => ∀ x dx, H x = none → H dx = none → dx ≠ x → Q (.ref x) (upd (upd H dx (.own x)) x (.ins C dx []))
theorem pe_makeN {X : Cx} {C : Addr} {x : Str} {p pos : Pos} (M : MkN X.K C) (hm : X.mg x = some (.ref C)) (hg : Gl X x := by rfl) (hdb : (x == ("__debug__" : Str)) = false := by decide) : PE X (.Call (.Name x p) [] [] pos) (tMakeN C) := by
  refine ⟨fun pins s σ H Q I h => ?_⟩
  refine wpAny_Call_Name_kw (ld_glob I hg hm ?_ hdb)
  refine PySem.W.callWith_K0 I.kIn M.kp ?_
  have hq := h (s.heap.objs.size + 1) s.heap.objs.size (I.hok.fresh (Nat.le_succ _)) (I.hok.fresh (Nat.le_refl _)) (Nat.ne_of_lt (Nat.lt_succ_self _))
  exact wpAny_call (codeN I.kIn M.makes M.init ⟨V.ref (s.heap.objs.size + 1), _, Inv.made (C := C) I, rfl, hq⟩)
/-! ### xs.remove(x) of data: the first that is equal goes -/
def rRemoveD (K : PySem.W.Frag) : V → List V → Hp → VK → Prop := fun x xs H Q => ∃ (l : Addr) (ys : List V) (y : V) (d : PyData) (ds : List PyData) (j : Nat) (z : PyData), x = V.ref l ∧ xs = [y] ∧ H l = some (.lst ys) ∧ DpAll K H ys ds ∧ Dp K H y d ∧
  SeqAt.shaped (.list ds) = true ∧ SeqAt.shaped d = true ∧ ds[j]? = some z ∧ PyData.eqv z d = true ∧ (∀ (m : Nat) (z' : PyData), m < j → ds[m]? = some z' → PyData.eqv z' d = false) ∧ Q .non (upd H l (.lst (ys.eraseIdx j)))
theorem mt_removeD {X : Cx} (hu : X.A.units + 65 < cLine) : MtR X "list.remove" (rRemoveD X.K) := by
  intro pins s σ H x xs v us Q I rx rxs h
  obtain ⟨l, ys, y, d, ds, j, z, rfl, rfl, hl, hds, hy, sl, sd, hz, hzj, hno, q⟩ := h
  cases rx
  cases rxs with
  | cons ry rt =>
    rename_i uy ut
    cases rt
    obtain ⟨bs, r1⟩ := Dp.reads I d y uy hy ry
    have hxs : PyData.canLayAll0 ds = true := SeqAt.canLay_of_shaped sl
    have hroom : X.A.units + 1 + min (PyData.depthAll ds) d.depth < cLine := room_in_shaped sd hu
    obtain ⟨hlen, its, n, rv, hil, ho⟩ := I.lstM hl
    obtain ⟨as, h4⟩ := Dp.readsAll I ds _ its hds rv
    have hn : its.length = ds.length := SeqAt.ReadsAll.length ds its as h4
    have hmap : its.map (SeqAt.readOf s.heap) = ds := SeqAt.readsAll_map ds its as hxs h4
    obtain ⟨hjd, _⟩ := List.getElem?_eq_some_iff.mp hz
    have hjl : j < its.length := by omega
    have hj : j < its.toArray.size := by simpa using hjl
    have at_ : ∀ (m : Nat) (hm : m < its.toArray.size) (z' : PyData), ds[m]? = some z' → SeqAt.readOf s.heap its.toArray[m] = z' := by
      intro m hm z' hz'
      have hml : m < its.length := by simpa using hm
      rw [← hmap, List.getElem?_map, List.getElem?_eq_getElem hml] at hz'
      have e1 : SeqAt.readOf s.heap its[m] = z' := Option.some.inj (show some (SeqAt.readOf s.heap its[m]) = some z' from hz')
      simpa using e1
    refine call_meets PySem.F.slot_list_remove ⟨_, ho, rfl⟩ PySem.F.entry_list_remove (PySem.F.args_list_remove_2 _ _)
      (SeqAt.list_removeAt l its.toArray n none #[] uy (fun u => PyData.eqv (SeqAt.readOf s.heap u) d) j hj ?_ ?_ (by rw [List.size_toArray, ← hil]; exact hlen)) ⟨ho, SeqAt.items_eqAt (vs := its.toArray) (show ReadsAll s.heap its.toArray.toList ds as from h4) r1 hxs (SeqAt.canLay_of_shaped sd) hroom, ?_⟩
    · show PyData.eqv (SeqAt.readOf s.heap its.toArray[j]) d = true
      rw [at_ j hj z hz]
      exact hzj
    · intro m hm hmj
      have hmd : m < ds.length := by omega
      have hz' : ds[m]? = some ds[m] := List.getElem?_eq_getElem hmd
      show PyData.eqv (SeqAt.readOf s.heap its.toArray[m]) d = false
      rw [at_ m hm _ hz']
      exact hno m _ hmj hz'
    · refine ⟨.non, _, I.lset (its' := its.eraseIdx j) hl ho ?_ (rv.eraseIdx j) ?_, rfl, q⟩
      · show its.toArray.eraseIdxIfInBounds j = (its.eraseIdx j).toArray
        rw [List.eraseIdxIfInBounds_toArray]
      · have := len_erase ys j
        omega
end Fk
end
section
set_option linter.all false
/-! Parting a span among takers: the mirror, and what it keeps. -/
namespace Fk
/-- the mark of one taker: h of m of the span's worth -/
def segMk (T : Steps) (h m : Nat) (s e : Rat) : Rat := (markS 0 T s ((h : Rat) / (m : Rat) * (areaS 0 T s e / tot T) * tot T)).getD 0
theorem seg_left {T : Steps} (g : Good T) (h m : Nat) (s e : Rat) : (h : Rat) / (m : Rat) * (areaS 0 T s e / tot T) * tot T = (h : Rat) / (m : Rat) * areaS 0 T s e := by
  have h0 := g.tot_pos
  have h1 : areaS 0 T s e / tot T * tot T = areaS 0 T s e := Rat.div_mul_cancel (by grind)
  rw [Rat.mul_assoc, h1]
theorem hm_pos {h m : Nat} (h0 : 0 < h) (hm : h < m) : (0 : Rat) < (h : Rat) / (m : Rat) ∧ (h : Rat) / (m : Rat) < 1 ∧ (h : Rat) / (m : Rat) * (m : Rat) = (h : Rat) := by
  have a : (0 : Rat) < (h : Rat) := Rat.natCast_pos.mpr h0
  have b : (0 : Rat) < (m : Rat) := Rat.natCast_pos.mpr (by omega)
  have c : (h : Rat) < (m : Rat) := Rat.natCast_lt_natCast.mpr hm
  have e : (h : Rat) / (m : Rat) * (m : Rat) = (h : Rat) := Rat.div_mul_cancel (by grind)
  refine ⟨?_, ?_, e⟩
  · exact Rat.lt_of_mul_lt_mul_right (c := (m : Rat)) (by rw [e]; grind) (by grind)
  · exact Rat.lt_of_mul_lt_mul_right (c := (m : Rat)) (by rw [e]; grind) (by grind)
theorem On.up {G : Nat} {s : Rat} (k : Nat) (h : On G s) : On (G * k) s := ⟨h.1, h.2.1, h.2.2.up k⟩
theorem seg_ok {T : Steps} (g : Good T) {h m : Nat} {s e : Rat} (h0 : 0 < h) (hm : h < m) (m8 : m ≤ 8) (hs : 0 ≤ s) (hse : s < e) (he : e ≤ 1) :
    (0 : Rat) < (h : Rat) / (m : Rat) * areaS 0 T s e ∧ (h : Rat) / (m : Rat) * areaS 0 T s e ≤ areaS 0 T s 1 ∧ s < segMk T h m s e ∧ segMk T h m s e < e ∧ areaS 0 T s (segMk T h m s e) * (m : Rat) = (h : Rat) * areaS 0 T s e ∧ markS 0 T s ((h : Rat) / (m : Rat) * areaS 0 T s e) = some (segMk T h m s e) := by
  obtain ⟨q1, q2, q3⟩ := hm_pos h0 hm
  have A := areaS_pos T 0 s e g.val hse (by grind) (by grind) (by grind)
  have pos : (0 : Rat) < (h : Rat) / (m : Rat) * areaS 0 T s e := Rat.mul_pos q1 A
  have lt : (h : Rat) / (m : Rat) * areaS 0 T s e < areaS 0 T s e := by
    have := Rat.mul_lt_mul_of_pos_right q2 A
    grind
  have add := areaS_add T 0 s e 1 (by grind) he
  have nn := areaS_nonneg T 0 e 1
  obtain ⟨p, hp, p1, p2, p3, p4⟩ := mark_ok T 0 s _ g.val pos (by grind)
  have ep : segMk T h m s e = p := by
    unfold segMk
    rw [seg_left g, hp]
    rfl
  rw [ep]
  refine ⟨pos, by grind, p1, ?_, ?_, hp⟩
  · refine Rat.not_le.mp fun z => ?_
    have add2 := areaS_add T 0 s e p (by grind) z
    have nn2 := areaS_nonneg T 0 e p
    grind
  · rw [p4]
    have : (h : Rat) / (m : Rat) * areaS 0 T s e * (m : Rat) = (h : Rat) / (m : Rat) * (m : Rat) * areaS 0 T s e := by grind
    rw [this, q3]
theorem seg_gr {T : Steps} (g : Good T) {P : Nat} (hP : ∀ x ∈ T, Gr P x.1) {h m D : Nat} {s e : Rat} (h0 : 0 < h) (hm : h < m) (m8 : m ≤ 8) (hs : On D s) (hse : s < e) (he : On D e) :
    (Gr (m * P * D) ((h : Rat) / (m : Rat) * areaS 0 T s e)) ∧ (∀ x ∈ T, Gr (m * P * D) x.1) ∧ ∃ w, 1 ≤ w ∧ w ≤ 1000 ∧ On (m * P * D * w) (segMk T h m s e) := by
  obtain ⟨q1, q2, q3, q4, q5, q6⟩ := seg_ok g h0 hm m8 hs.1 hse he.2.1
  have m0 : 0 < m := by omega
  have gT : ∀ x ∈ T, Gr (P * D) x.1 := fun x hx => (hP x hx).up D
  have gs : Gr (P * D) s := by
    have := hs.2.2.up' P
    exact this
  have ge : Gr (P * D) e := he.2.2.up' P
  have gA := areaS_gr T 0 s e gT (Gr.zero _) gs ge
  have gl : Gr (m * P * D) ((h : Rat) / (m : Rat) * areaS 0 T s e) := by
    have x := (gA.nmul h).divw m0
    have e1 : (h : Rat) * areaS 0 T s e / (m : Rat) = (h : Rat) / (m : Rat) * areaS 0 T s e := by grind
    rw [e1] at x
    have e2 : P * D * m = m * P * D := by
      rw [Nat.mul_comm (P * D) m, Nat.mul_assoc]
    rw [e2] at x
    exact x
  have gT2 : ∀ x ∈ T, Gr (m * P * D) x.1 := fun x hx => by
    have := (gT x hx).up' m
    rw [← Nat.mul_assoc] at this
    exact this
  have gs2 : Gr (m * P * D) s := by
    have := gs.up' m
    rw [← Nat.mul_assoc] at this
    exact this
  refine ⟨gl, gT2, ?_⟩
  obtain ⟨w, w1, w2, w3⟩ := mark_gr T 0 s _ _ g.val gT2 (Gr.zero _) gs2 gl q6
  have h1 := hs.1
  have h2 := he.2.1
  exact ⟨w, w1, w2, by grind, by grind, w3⟩
/-! ### the order of the marks -/
def insT (mk : Nat → Rat) (t : Nat) : List Nat → List Nat
  | [] => [t]
  | x :: r => if mk t < mk x then t :: x :: r else x :: insT mk t r
def orderT (mk : Nat → Rat) (ts : List Nat) : List Nat := ts.foldl (fun o t => insT mk t o) []
def Lex (mk : Nat → Rat) (a b : Nat) : Prop := mk a < mk b ∨ (mk a = mk b ∧ a < b)
theorem insT_perm (mk : Nat → Rat) (t : Nat) : ∀ o : List Nat, (insT mk t o).Perm (t :: o)
  | [] => List.Perm.refl _
  | x :: r => by
    unfold insT
    split
    · exact List.Perm.refl _
    · exact ((insT_perm mk t r).cons x).trans (List.Perm.swap t x r)
theorem insT_lex (mk : Nat → Rat) (t : Nat) : ∀ o : List Nat, o.Pairwise (Lex mk) → (∀ x ∈ o, x < t) → (insT mk t o).Pairwise (Lex mk)
  | [], _, _ => List.pairwise_singleton _ _
  | x :: r, h, hx => by
    obtain ⟨h1, h2⟩ := List.pairwise_cons.mp h
    unfold insT
    split
    · rename_i lt
      refine List.pairwise_cons.mpr ⟨fun y hy => ?_, h⟩
      rcases List.mem_cons.mp hy with rfl | hy
      · exact .inl lt
      · rcases h1 y hy with q | ⟨q, _⟩
        · exact .inl (by grind)
        · exact .inl (by grind)
    · rename_i lt
      refine List.pairwise_cons.mpr ⟨fun y hy => ?_, insT_lex mk t r h2 fun z hz => hx z (List.mem_cons_of_mem _ hz)⟩
      have hy := (insT_perm mk t r).mem_iff.mp hy
      rcases List.mem_cons.mp hy with rfl | hy
      · have := hx x (List.mem_cons_self ..)
        by_cases e : mk x = mk y
        · exact .inr ⟨e, this⟩
        · exact .inl (by grind)
      · exact h1 y hy
theorem fold_perm (mk : Nat → Rat) : ∀ (ts o : List Nat), (ts.foldl (fun o t => insT mk t o) o).Perm (o ++ ts)
  | [], o => by rw [List.append_nil]; exact List.Perm.refl _
  | t :: r, o => by
    show (r.foldl (fun o t => insT mk t o) (insT mk t o)).Perm _
    refine (fold_perm mk r (insT mk t o)).trans ?_
    refine ((insT_perm mk t o).append_right r).trans ?_
    show (t :: o ++ r).Perm (o ++ t :: r)
    exact List.perm_middle.symm
theorem order_perm (mk : Nat → Rat) (ts : List Nat) : (orderT mk ts).Perm ts := by
  have := fold_perm mk ts []
  rw [List.nil_append] at this
  exact this
theorem fold_lex (mk : Nat → Rat) : ∀ (ts o : List Nat), o.Pairwise (Lex mk) → ts.Pairwise (· < ·) → (∀ x ∈ o, ∀ t ∈ ts, x < t) → (ts.foldl (fun o t => insT mk t o) o).Pairwise (Lex mk)
  | [], o, h, _, _ => h
  | t :: r, o, h, ht, hx => by
    obtain ⟨h1, h2⟩ := List.pairwise_cons.mp ht
    refine fold_lex mk r (insT mk t o) (insT_lex mk t o h fun x hxo => hx x hxo t (List.mem_cons_self ..)) h2 fun x hxo y hy => ?_
    have hm := (insT_perm mk t o).mem_iff.mp hxo
    rcases List.mem_cons.mp hm with rfl | hm
    · exact h1 y hy
    · exact hx x hm y (List.mem_cons_of_mem _ hy)
theorem order_lex (mk : Nat → Rat) (ts : List Nat) (h : ts.Pairwise (· < ·)) : (orderT mk ts).Pairwise (Lex mk) := fold_lex mk ts [] List.Pairwise.nil h fun x hx => absurd hx (by simp)
theorem order_len (mk : Nat → Rat) (ts : List Nat) : (orderT mk ts).length = ts.length := (order_perm mk ts).length_eq
/-- where a taker is put -/
theorem insT_at (mk : Nat → Rat) (t : Nat) : ∀ (o : List Nat) (a : Nat), a ≤ o.length → (∀ (j : Nat) x, o[j]? = some x → j < a → ¬ mk t < mk x) → (∀ x, o[a]? = some x → mk t < mk x) → insT mk t o = o.take a ++ [t] ++ o.drop a
  | [], a, h, _, _ => by
    have : a = 0 := by simpa using h
    subst this
    rfl
  | x :: r, 0, _, _, h2 => by
    unfold insT
    rw [if_pos (h2 x rfl)]
    rfl
  | x :: r, a + 1, h, h1, h2 => by
    unfold insT
    rw [if_neg (h1 0 x rfl (by omega)), insT_at mk t r a (by simpa using h) (fun j y hj lt => h1 (j + 1) y (by simpa using hj) (by omega)) (fun y hy => h2 y (by simpa using hy))]
    rfl
/-! ### some of the takers, rising -/
def sub (ts l : List Nat) : List Nat := ts.filter fun t => decide (t ∈ l)
theorem sub_up {ts l : List Nat} (h : ts.Pairwise (· < ·)) : (sub ts l).Pairwise (· < ·) := h.sublist List.filter_sublist
theorem nodup_of_up {ts : List Nat} (h : ts.Pairwise (· < ·)) : ts.Nodup := h.imp fun a e => by subst e; exact absurd a (Nat.lt_irrefl _)
theorem sub_perm {ts l : List Nat} (h : ts.Pairwise (· < ·)) (hl : l.Nodup) (hs : ∀ x ∈ l, x ∈ ts) : (sub ts l).Perm l := by
  refine (List.perm_ext_iff_of_nodup (nodup_of_up (sub_up h)) hl).mpr fun a => ?_
  unfold sub
  rw [List.mem_filter, decide_eq_true_iff]
  exact ⟨fun q => q.2, fun q => ⟨hs a q, q⟩⟩
theorem sub_sorted {ts l : List Nat} {ns : List Int} (h : ts.Pairwise (· < ·)) (hl : l.Nodup) (hs : ∀ x ∈ l, x ∈ ts) (hp : ns.Perm (l.map fun (t : Nat) => (t : Int))) (hle : ns.Pairwise (· ≤ ·)) : ns = (sub ts l).map fun (t : Nat) => (t : Int) := by
  have p2 : ns.Perm ((sub ts l).map fun (t : Nat) => (t : Int)) := hp.trans ((sub_perm h hl hs).symm.map _)
  refine p2.eq_of_pairwise (le := (· ≤ ·)) (fun a b _ _ x y => Int.le_antisymm x y) hle ?_
  rw [List.pairwise_map]
  exact (sub_up h).imp fun q => by omega
theorem order_snoc (mk : Nat → Rat) {ts : List Nat} {i t : Nat} (h : ts[i]? = some t) : orderT mk (ts.take (i + 1)) = insT mk t (orderT mk (ts.take i)) := by
  unfold orderT
  rw [List.take_add_one, h, List.foldl_append]
  rfl
/-- a quotient on a grid -/
theorem div_gr {G M : Nat} {x y : Rat} (hG : 0 < G) (hx : Gr G x) (hy : Gr G y) (h0 : 0 < y) (hM : y ≤ (M : Rat)) : ∃ b, 0 < b ∧ b ≤ M * G ∧ Gr b (x / y) := by
  obtain ⟨n, hn⟩ := hx
  obtain ⟨k, hk⟩ := hy
  have g0 : (0 : Rat) < (G : Rat) := Rat.natCast_pos.mpr hG
  have kp : (0 : Rat) < (k : Rat) := by
    rw [← hk]
    exact Rat.mul_pos h0 g0
  have k0 : 0 < k := Rat.intCast_pos.mp kp
  have kc : ((k.toNat : Nat) : Rat) = (k : Rat) := by
    have : ((k.toNat : Nat) : Int) = k := by omega
    rw [← Rat.intCast_natCast, this]
  refine ⟨k.toNat, by omega, ?_, n, ?_⟩
  · have h1 : (k : Rat) ≤ ((M * G : Nat) : Rat) := by
      rw [← hk, Rat.natCast_mul]
      exact Rat.mul_le_mul_of_nonneg_right hM (by grind)
    have h2 : ((k.toNat : Nat) : Rat) ≤ ((M * G : Nat) : Rat) := by rw [kc]; exact h1
    exact Rat.natCast_le_natCast.mp h2
  · rw [kc, ← hk, ← hn]
    have e : x / y * y = x := Rat.div_mul_cancel (by grind)
    have e2 : x / y * (y * (G : Rat)) = x / y * y * (G : Rat) := by rw [Rat.mul_assoc]
    rw [e2, e]
/-! ### the mirror -/
def partF (Ts : List Steps) : Nat → List Nat → Rat → Rat → List (Nat × Rat × Rat)
  | 0, ts, s, e => ts.map fun t => (t, s, e)
  | n + 1, ts, s, e =>
    if ts.length ≤ 1 then ts.map fun t => (t, s, e)
    else
      let o := orderT (fun t => segMk (Ts.getD t []) (ts.length / 2) ts.length s e) ts
      let p := segMk (Ts.getD (o.getD (ts.length / 2 - 1) 0) []) (ts.length / 2) ts.length s e
      partF Ts n (sub ts (o.take (ts.length / 2))) s p ++ partF Ts n (sub ts (o.drop (ts.length / 2))) p e
end Fk
end
section
set_option linter.all false
set_option maxHeartbeats 1000000
/-! What a parting keeps. -/
namespace Fk
abbrev Leaf := Nat × Rat × Rat
def Chain : Rat → List Leaf → Rat → Prop
  | a, [], b => a = b
  | a, x :: r, b => x.2.1 = a ∧ x.2.1 < x.2.2 ∧ Chain x.2.2 r b
theorem Chain.app : ∀ {L1 L2 : List Leaf} {a b c : Rat}, Chain a L1 b → Chain b L2 c → Chain a (L1 ++ L2) c
  | [], _, a, b, c, h, k => by
    have h : a = b := h
    rw [h]
    exact k
  | x :: r, _, _, _, _, ⟨h1, h2, h3⟩, k => ⟨h1, h2, Chain.app h3 k⟩
theorem Chain.first {L : List Leaf} {a b : Rat} (h : Chain a L b) (h0 : 0 < L.length) : ∃ x, L[0]? = some x ∧ x.2.1 = a := by
  cases L with
  | nil => exact absurd h0 (by simp)
  | cons x r => exact ⟨x, rfl, h.1⟩
theorem Chain.last : ∀ {L : List Leaf} {a b : Rat}, Chain a L b → 0 < L.length → ∃ x, L[L.length - 1]? = some x ∧ x.2.2 = b
  | [], _, _, _, h0 => absurd h0 (by simp)
  | [x], _, b, ⟨h1, h2, h3⟩, _ => ⟨x, rfl, h3⟩
  | x :: y :: r, _, b, ⟨h1, h2, h3⟩, _ => by
    obtain ⟨z, q1, q2⟩ := Chain.last h3 (by simp)
    exact ⟨z, by simpa using q1, q2⟩
theorem Chain.le : ∀ {L : List Leaf} {a b : Rat}, Chain a L b → a ≤ b
  | [], a, b, h => by
    have h : a = b := h
    grind
  | x :: r, a, b, ⟨h1, h2, h3⟩ => by
    have := Chain.le h3
    grind
def tst (Ts : List Steps) (x : Leaf) : Steps := Ts.getD x.1 []
structure Sides (Ts : List Steps) (L : List Leaf) (h m : Nat) (s p e : Rat) : Prop where
  fst : ∀ (i : Nat) x, L[i]? = some x → i < h → (h : Rat) * areaS 0 (tst Ts x) s e ≤ areaS 0 (tst Ts x) s p * (m : Rat)
  snd : ∀ (i : Nat) x, L[i]? = some x → h ≤ i → areaS 0 (tst Ts x) s p * (m : Rat) ≤ (h : Rat) * areaS 0 (tst Ts x) s e
  one : ∃ (i : Nat) (x : Leaf), i < h ∧ L[i]? = some x ∧ areaS 0 (tst Ts x) s p * (m : Rat) = (h : Rat) * areaS 0 (tst Ts x) s e
  ord : ∀ (i j : Nat) x y, L[i]? = some x → L[j]? = some y → i < h → h ≤ j → areaS 0 (tst Ts x) s p * (m : Rat) = (h : Rat) * areaS 0 (tst Ts x) s e → areaS 0 (tst Ts y) s p * (m : Rat) = (h : Rat) * areaS 0 (tst Ts y) s e → x.1 < y.1
def GroupR (Ts : List Steps) (L : List Leaf) : Prop := ∃ (x y z : Leaf), L[0]? = some x ∧ L[L.length / 2 - 1]? = some y ∧ L[L.length - 1]? = some z ∧ x.2.1 < z.2.2 ∧ Sides Ts L (L.length / 2) L.length x.2.1 y.2.2 z.2.2
def RightN (Ts : List Steps) : Nat → List Leaf → Prop
  | 0, L => L.length ≤ 1
  | n + 1, L => L.length ≤ 1 ∨ (GroupR Ts L ∧ RightN Ts n (L.take (L.length / 2)) ∧ RightN Ts n (L.drop (L.length / 2)))
theorem two_pow_half {m n : Nat} (h : m ≤ 2 ^ (n + 1)) : m / 2 ≤ 2 ^ n ∧ m - m / 2 ≤ 2 ^ n := by
  have : 2 ^ (n + 1) = 2 * 2 ^ n := by rw [Nat.pow_succ, Nat.mul_comm]
  omega
theorem lex_pos {mk : Nat → Rat} {o : List Nat} (h : o.Pairwise (Lex mk)) {i j : Nat} {a b : Nat} (hi : o[i]? = some a) (hj : o[j]? = some b) (lt : i < j) : Lex mk a b := by
  obtain ⟨h1, rfl⟩ := List.getElem?_eq_some_iff.mp hi
  obtain ⟨h2, rfl⟩ := List.getElem?_eq_some_iff.mp hj
  exact List.pairwise_iff_getElem.mp h i j h1 h2 lt
theorem area_mono {T : Steps} (s p q : Rat) (h1 : s ≤ p) (h2 : p ≤ q) : areaS 0 T s p ≤ areaS 0 T s q := by
  have := areaS_add T 0 s p q h1 h2
  have := areaS_nonneg T 0 p q
  grind
theorem area_strict {T : Steps} (g : Good T) {s p q : Rat} (h0 : 0 ≤ s) (h1 : s ≤ p) (h2 : p < q) (h3 : q ≤ 1) : areaS 0 T s p < areaS 0 T s q := by
  have := areaS_add T 0 s p q h1 (by grind)
  have := areaS_pos T 0 p q g.val h2 (by grind) (by grind) (by grind)
  grind
theorem part_len (Ts : List Steps) {L : List Leaf} {ts : List Nat} (h : (L.map (·.1)).Perm ts) : L.length = ts.length := by
  have := h.length_eq
  rw [List.length_map] at this
  exact this
structure PartOk (Ts : List Steps) (n : Nat) (ts : List Nat) (s e : Rat) (D : Nat) (L : List Leaf) : Prop where
  perm : (L.map (·.1)).Perm ts
  chain : Chain s L e
  right : RightN Ts n L
  share : ∀ x ∈ L, areaS 0 (tst Ts x) s e ≤ (ts.length : Rat) * areaS 0 (tst Ts x) x.2.1 x.2.2
  grid : ∀ x ∈ L, ∃ D', 0 < D' ∧ D' ≤ D * 2 ^ (23 * n) ∧ On D' x.2.1 ∧ On D' x.2.2
theorem one_of {ts : List Nat} (h1 : 1 ≤ ts.length) (h2 : ts.length ≤ 1) : ∃ t, ts = [t] := by
  match ts, h1, h2 with
  | [t], _, _ => exact ⟨t, rfl⟩
theorem part_one (Ts : List Steps) {n : Nat} {ts : List Nat} {s e : Rat} {D : Nat} (h1 : 1 ≤ ts.length) (h2 : ts.length ≤ 1) (hD : 0 < D) (hs : On D s) (he : On D e) (hse : s < e) : PartOk Ts n ts s e D (ts.map fun t => (t, s, e)) := by
  obtain ⟨t, rfl⟩ := one_of h1 h2
  refine ⟨List.Perm.refl _, ⟨rfl, hse, rfl⟩, ?_, fun x hx => ?_, fun x hx => ?_⟩
  · cases n with
    | zero => exact Nat.le_refl _
    | succ n => exact .inl (Nat.le_refl _)
  · rcases List.mem_singleton.mp hx with rfl
    show areaS 0 _ s e ≤ ((1 : Nat) : Rat) * areaS 0 _ s e
    have : ((1 : Nat) : Rat) = 1 := rfl
    grind
  · rcases List.mem_singleton.mp hx with rfl
    refine ⟨D, hD, Nat.le_mul_of_pos_right _ (Nat.pow_pos (by decide)), hs, he⟩
theorem getD_good {Ts : List Steps} (hT : ∀ T ∈ Ts, Good T) {t : Nat} (ht : t < Ts.length) : Good (Ts.getD t []) := by
  have e : Ts.getD t [] = Ts[t] := by simp [List.getD, ht]
  rw [e]
  exact hT _ (List.getElem_mem ht)
theorem share1 {A a b x h m : Rat} (h0 : 0 < h) (h1 : h * A ≤ a * m) (h2 : a ≤ h * x) (hm : 0 ≤ m) : A ≤ m * x := by
  have h3 : a * m ≤ h * x * m := Rat.mul_le_mul_of_nonneg_right h2 hm
  refine Rat.le_of_mul_le_mul_left (c := h) ?_ h0
  have : h * (m * x) = h * x * m := by grind
  grind
theorem share2 {A a b x h k m : Rat} (h0 : 0 < k) (e : h + k = m) (hA : A = a + b) (h1 : a * m ≤ h * A) (h2 : b ≤ k * x) (hm : 0 ≤ m) : A ≤ m * x := by
  have h3 : b * m ≤ k * x * m := Rat.mul_le_mul_of_nonneg_right h2 hm
  refine Rat.le_of_mul_le_mul_left (c := k) ?_ h0
  have e1 : k * (m * x) = k * x * m := by grind
  have e2 : k * A = m * A - h * A := by
    have : k = m - h := by grind
    rw [this]
    grind
  have e3 : m * A = a * m + b * m := by
    rw [hA]
    grind
  grind
theorem part_ok (Ts : List Steps) (hT : ∀ T ∈ Ts, Good T) : ∀ (n : Nat) (ts : List Nat) (s e : Rat) (D : Nat), ts.Pairwise (· < ·) → (∀ t ∈ ts, t < Ts.length) → 1 ≤ ts.length → ts.length ≤ 2 ^ n → ts.length ≤ 8 → 0 < D → On D s → On D e → s < e → PartOk Ts n ts s e D (partF Ts n ts s e) := by
  intro n
  induction n with
  | zero =>
    intro ts s e D hup hlt h1 h2 h8 hD hs he hse
    exact part_one Ts h1 h2 hD hs he hse
  | succ n ih =>
    intro ts s e D hup hlt h1 h2 h8 hD hs he hse
    unfold partF
    split
    · rename_i hl
      exact part_one Ts h1 hl hD hs he hse
    · rename_i hl
      have hl2 : 2 ≤ ts.length := by omega
      generalize hm : ts.length = m at *
      generalize hh : m / 2 = h at *
      have h0 : 0 < h := by omega
      have hhm : h < m := by omega
      dsimp only
      generalize hmk : (fun t => segMk (Ts.getD t []) h m s e) = mk
      have emk : ∀ t, segMk (Ts.getD t []) h m s e = mk t := fun t => congrFun hmk t
      generalize ho : orderT mk ts = o
      have op : o.Perm ts := by rw [← ho]; exact order_perm mk ts
      have olex : o.Pairwise (Lex mk) := by rw [← ho]; exact order_lex mk ts hup
      have olen : o.length = m := by rw [op.length_eq, hm]
      have ond : o.Nodup := op.nodup_iff.mpr (nodup_of_up hup)
      obtain ⟨t0, ht0⟩ : ∃ t0, o[h - 1]? = some t0 := ⟨_, List.getElem?_eq_getElem (by omega)⟩
      have et0 : o.getD (h - 1) 0 = t0 := by simp [List.getD, ht0]
      rw [et0, emk]
      generalize hp : mk t0 = p
      have ot : ∀ t ∈ o, t < Ts.length := fun t ht => hlt t (op.mem_iff.mp ht)
      have good : ∀ t ∈ o, Good (Ts.getD t []) := fun t ht => getD_good hT (ot t ht)
      have seg := fun t (ht : t ∈ o) => seg_ok (good t ht) h0 hhm h8 hs.1 hse he.2.1
      have t0m : t0 ∈ o := List.mem_of_getElem? ht0
      have sp : s < p := by
        have := (seg t0 t0m).2.2.1
        rw [emk, hp] at this
        exact this
      have pe : p < e := by
        have := (seg t0 t0m).2.2.2.1
        rw [emk, hp] at this
        exact this
      -- the grid of the point
      obtain ⟨D1, hD1, leD1, sD1, pD1, eD1⟩ : ∃ D1, 0 < D1 ∧ D1 ≤ D * 2 ^ 23 ∧ On D1 s ∧ On D1 p ∧ On D1 e := by
        obtain ⟨P, P0, P1, P2⟩ := (good t0 t0m).grid
        obtain ⟨_, _, w, w1, w2, w3⟩ := seg_gr (good t0 t0m) P2 h0 hhm h8 hs hse he
        rw [emk, hp] at w3
        refine ⟨m * P * D * w, Nat.mul_pos (Nat.mul_pos (Nat.mul_pos (by omega) P0) hD) (by omega), ?_, ?_, w3, ?_⟩
        · have a1 : m * P ≤ 8 * 1000 := Nat.mul_le_mul h8 P1
          have a2 : m * P * w ≤ 8 * 1000 * 1000 := Nat.mul_le_mul a1 w2
          have a3 : m * P * D * w = D * (m * P * w) := by
            rw [Nat.mul_assoc (m * P) D w, Nat.mul_comm D w, ← Nat.mul_assoc, Nat.mul_comm]
          rw [a3]
          exact Nat.mul_le_mul_left _ (Nat.le_trans a2 (by decide))
        · have q := (hs.up (m * P)).up w
          rw [Nat.mul_comm D (m * P)] at q
          exact q
        · have q := (he.up (m * P)).up w
          rw [Nat.mul_comm D (m * P)] at q
          exact q
      have mk_le : ∀ (i : Nat) t, o[i]? = some t → i < h → mk t ≤ p := fun i t hi lt => by
        by_cases e : i = h - 1
        · rw [e, ht0] at hi
          cases hi
          rw [hp]
          grind
        · rcases lex_pos olex hi ht0 (by omega) with q | ⟨q, _⟩ <;> grind
      have mk_ge : ∀ (i : Nat) t, o[i]? = some t → h ≤ i → p ≤ mk t := fun i t hi lt => by
        rcases lex_pos olex ht0 hi (by omega) with q | ⟨q, _⟩ <;> grind
      have pa : ∀ t ∈ o, areaS 0 (Ts.getD t []) s (mk t) * (m : Rat) = (h : Rat) * areaS 0 (Ts.getD t []) s e ∧ s < mk t ∧ mk t < e := fun t ht => by
        have q := seg t ht
        rw [emk] at q
        exact ⟨q.2.2.2.2.1, q.2.2.1, q.2.2.2.1⟩
      have mr : (0 : Rat) ≤ (m : Rat) := Rat.natCast_nonneg
      have mpos : (0 : Rat) < (m : Rat) := Rat.natCast_pos.mpr (by omega)
      have side1 : ∀ (i : Nat) t, o[i]? = some t → i < h → (h : Rat) * areaS 0 (Ts.getD t []) s e ≤ areaS 0 (Ts.getD t []) s p * (m : Rat) := fun i t hi lt => by
        obtain ⟨q1, q2, q3⟩ := pa t (List.mem_of_getElem? hi)
        rw [← q1]
        exact Rat.mul_le_mul_of_nonneg_right (area_mono s (mk t) p (by grind) (mk_le i t hi lt)) mr
      have side2 : ∀ (i : Nat) t, o[i]? = some t → h ≤ i → areaS 0 (Ts.getD t []) s p * (m : Rat) ≤ (h : Rat) * areaS 0 (Ts.getD t []) s e := fun i t hi lt => by
        obtain ⟨q1, q2, q3⟩ := pa t (List.mem_of_getElem? hi)
        rw [← q1]
        exact Rat.mul_le_mul_of_nonneg_right (area_mono s p (mk t) (by grind) (mk_ge i t hi lt)) mr
      have just : ∀ t ∈ o, areaS 0 (Ts.getD t []) s p * (m : Rat) = (h : Rat) * areaS 0 (Ts.getD t []) s e → mk t = p := fun t ht q => by
        obtain ⟨q1, q2, q3⟩ := pa t ht
        have q4 : areaS 0 (Ts.getD t []) s p * (m : Rat) = areaS 0 (Ts.getD t []) s (mk t) * (m : Rat) := by rw [q, q1]
        have h1' := he.2.1
        rcases (by grind : mk t = p ∨ mk t < p ∨ p < mk t) with e | e | e
        · exact e
        · have lt := area_strict (good t ht) hs.1 (by grind) e (by grind)
          have := Rat.mul_lt_mul_of_pos_right lt mpos
          grind
        · have lt := area_strict (good t ht) hs.1 (by grind) e (by grind)
          have := Rat.mul_lt_mul_of_pos_right lt mpos
          grind
      -- the two halves
      have tk : ∀ x ∈ o.take h, x ∈ ts := fun x hx => op.mem_iff.mp (List.mem_of_mem_take hx)
      have dr : ∀ x ∈ o.drop h, x ∈ ts := fun x hx => op.mem_iff.mp (List.mem_of_mem_drop hx)
      have ndt : (o.take h).Nodup := ond.sublist (List.take_sublist h o)
      have ndd : (o.drop h).Nodup := ond.sublist (List.drop_sublist h o)
      have pt := sub_perm hup ndt tk
      have pd := sub_perm hup ndd dr
      have lt1 : (sub ts (o.take h)).length = h := by rw [pt.length_eq, List.length_take]; omega
      have ld1 : (sub ts (o.drop h)).length = m - h := by rw [pd.length_eq, List.length_drop]; omega
      have hp2 := two_pow_half h2
      rw [hh] at hp2
      have o1 := ih (sub ts (o.take h)) s p D1 (sub_up hup) (fun t ht => hlt t (tk t (pt.mem_iff.mp ht))) (by omega) (by omega) (by omega) hD1 sD1 pD1 sp
      have o2 := ih (sub ts (o.drop h)) p e D1 (sub_up hup) (fun t ht => hlt t (dr t (pd.mem_iff.mp ht))) (by omega) (by omega) (by omega) hD1 pD1 eD1 pe
      generalize hL1 : partF Ts n (sub ts (o.take h)) s p = L1 at *
      generalize hL2 : partF Ts n (sub ts (o.drop h)) p e = L2 at *
      have l1 : L1.length = h := by rw [part_len Ts o1.perm, lt1]
      have l2 : L2.length = m - h := by rw [part_len Ts o2.perm, ld1]
      have lL : (L1 ++ L2).length = m := by rw [List.length_append, l1, l2]; omega
      have chain := o1.chain.app o2.chain
      -- where a leaf's taker stands in the order
      have at1 : ∀ (i : Nat) x, (L1 ++ L2)[i]? = some x → i < h → x ∈ L1 ∧ ∃ k, k < h ∧ o[k]? = some x.1 := fun i x hi lt => by
        rw [List.getElem?_append_left (by omega)] at hi
        have hm := List.mem_of_getElem? hi
        refine ⟨hm, ?_⟩
        have q : x.1 ∈ o.take h := pt.mem_iff.mp (o1.perm.mem_iff.mp (List.mem_map.mpr ⟨x, hm, rfl⟩))
        obtain ⟨k, hk⟩ := List.mem_iff_getElem?.mp q
        rw [List.getElem?_take] at hk
        split at hk
        · exact ⟨k, by assumption, hk⟩
        · cases hk
      have at2 : ∀ (i : Nat) x, (L1 ++ L2)[i]? = some x → h ≤ i → x ∈ L2 ∧ ∃ k, h ≤ k ∧ o[k]? = some x.1 := fun i x hi le => by
        rw [List.getElem?_append_right (by omega)] at hi
        have hm := List.mem_of_getElem? hi
        refine ⟨hm, ?_⟩
        have q : x.1 ∈ o.drop h := pd.mem_iff.mp (o2.perm.mem_iff.mp (List.mem_map.mpr ⟨x, hm, rfl⟩))
        obtain ⟨k, hk⟩ := List.mem_iff_getElem?.mp q
        rw [List.getElem?_drop] at hk
        exact ⟨h + k, by omega, hk⟩
      have sides : Sides Ts (L1 ++ L2) h m s p e := by
        refine ⟨fun i x hi lt => ?_, fun i x hi le => ?_, ?_, fun i j x y hi hj lt le ex ey => ?_⟩
        · obtain ⟨_, k, k1, k2⟩ := at1 i x hi lt
          exact side1 k x.1 k2 k1
        · obtain ⟨_, k, k1, k2⟩ := at2 i x hi le
          exact side2 k x.1 k2 k1
        · have q : t0 ∈ o.take h := List.mem_iff_getElem?.mpr ⟨h - 1, by rw [List.getElem?_take, if_pos (by omega)]; exact ht0⟩
          have q2 := o1.perm.mem_iff.mpr (pt.mem_iff.mpr q)
          obtain ⟨x, hx, ex⟩ := List.mem_map.mp q2
          obtain ⟨i, hi⟩ := List.mem_iff_getElem?.mp hx
          have ib := (List.getElem?_eq_some_iff.mp hi).1
          refine ⟨i, x, by omega, by rw [List.getElem?_append_left ib]; exact hi, ?_⟩
          have := (pa t0 t0m).1
          rw [hp] at this
          unfold tst
          rw [ex]
          exact this
        · obtain ⟨_, k, k1, k2⟩ := at1 i x hi lt
          obtain ⟨_, k', k1', k2'⟩ := at2 j y hj le
          have e1 := just x.1 (List.mem_of_getElem? k2) ex
          have e2 := just y.1 (List.mem_of_getElem? k2') ey
          rcases lex_pos olex k2 k2' (by omega) with q | ⟨_, q⟩
          · grind
          · exact q
      obtain ⟨x0, hx0, ex0⟩ := chain.first (by omega)
      obtain ⟨z0, hz0, ez0⟩ := chain.last (by omega)
      obtain ⟨y0, hy0, ey0⟩ := o1.chain.last (by omega)
      refine ⟨?_, chain, .inr ⟨⟨x0, y0, z0, hx0, ?_, hz0, ?_, ?_⟩, ?_, ?_⟩, fun x hx => ?_, fun x hx => ?_⟩
      · rw [List.map_append]
        have q := (o1.perm.trans pt).append (o2.perm.trans pd)
        rw [List.take_append_drop] at q
        exact q.trans op
      · rw [lL, hh, List.getElem?_append_left (by omega), ← l1]
        exact hy0
      · rw [ex0, ez0]
        exact hse
      · rw [lL, hh, ex0, ey0, ez0]
        exact sides
      · rw [lL, hh, List.take_left' l1]
        exact o1.right
      · rw [lL, hh, List.drop_left' l1]
        exact o2.right
      · obtain ⟨i, hi⟩ := List.mem_iff_getElem?.mp hx
        have hr : (0 : Rat) < (h : Rat) := Rat.natCast_pos.mpr h0
        by_cases lt : i < h
        · obtain ⟨hm1, k, k1, k2⟩ := at1 i x hi lt
          have s1 := o1.share x hm1
          rw [lt1] at s1
          rw [hm]
          exact share1 (b := 0) hr (side1 k x.1 k2 k1) s1 mr
        · obtain ⟨hm1, k, k1, k2⟩ := at2 i x hi (by omega)
          have s1 := o2.share x hm1
          rw [ld1] at s1
          rw [hm]
          have ek : ((h : Nat) : Rat) + ((m - h : Nat) : Rat) = (m : Rat) := by
            rw [← Rat.natCast_add]
            congr 1
            omega
          exact share2 (Rat.natCast_pos.mpr (by omega)) ek (areaS_add _ 0 s p e (by grind) (by grind)) (side2 k x.1 k2 k1) s1 mr
      · have up : ∀ D', D' ≤ D1 * 2 ^ (23 * n) → D' ≤ D * 2 ^ (23 * (n + 1)) := fun D' q => by
          refine Nat.le_trans q (Nat.le_trans (Nat.mul_le_mul_right _ leD1) ?_)
          rw [Nat.mul_assoc, ← Nat.pow_add]
          exact Nat.mul_le_mul_left _ (Nat.pow_le_pow_right (by decide) (by omega))
        rcases List.mem_append.mp hx with hx | hx
        · obtain ⟨D', a, b, c⟩ := o1.grid x hx
          exact ⟨D', a, up D' b, c⟩
        · obtain ⟨D', a, b, c⟩ := o2.grid x hx
          exact ⟨D', a, up D' b, c⟩

/-- what a parting asks -/
structure PartPre (Ts : List Steps) (n : Nat) (ts : List Nat) (s e : Rat) (D : Nat) : Prop where
  good : ∀ T ∈ Ts, Good T
  up : ts.Pairwise (· < ·)
  lt : ∀ t ∈ ts, t < Ts.length
  one : 1 ≤ ts.length
  pow : ts.length ≤ 2 ^ n
  most : ts.length ≤ 8
  D0 : 0 < D
  Dle : D * 2 ^ (23 * n) ≤ 2 ^ 500
  os : On D s
  oe : On D e
  se : s < e
theorem PartPre.ok {Ts : List Steps} {n : Nat} {ts : List Nat} {s e : Rat} {D : Nat} (h : PartPre Ts n ts s e D) : PartOk Ts n ts s e D (partF Ts n ts s e) := part_ok Ts h.good n ts s e D h.up h.lt h.one h.pow h.most h.D0 h.os h.oe h.se
theorem partF_one (Ts : List Steps) (n t : Nat) (s e : Rat) : partF Ts n [t] s e = [(t, s, e)] := by
  cases n with
  | zero => rfl
  | succ n =>
    unfold partF
    rw [if_pos (show [t].length ≤ 1 from Nat.le_refl 1)]
    rfl
abbrev mkF (Ts : List Steps) (ts : List Nat) (s e : Rat) : Nat → Rat := fun t => segMk (Ts.getD t []) (ts.length / 2) ts.length s e
theorem partF_two (Ts : List Steps) (n : Nat) {ts : List Nat} (s e : Rat) (h : 2 ≤ ts.length) {t0 : Nat} (h0 : (orderT (mkF Ts ts s e) ts)[ts.length / 2 - 1]? = some t0) : partF Ts (n + 1) ts s e =
    partF Ts n (sub ts ((orderT (mkF Ts ts s e) ts).take (ts.length / 2))) s (mkF Ts ts s e t0) ++ partF Ts n (sub ts ((orderT (mkF Ts ts s e) ts).drop (ts.length / 2))) (mkF Ts ts s e t0) e := by
  conv => lhs; unfold partF
  rw [if_neg (by omega)]
  have e0 : (orderT (mkF Ts ts s e) ts).getD (ts.length / 2 - 1) 0 = t0 := by simp [List.getD, h0]
  show partF Ts n _ s (segMk (Ts.getD ((orderT (mkF Ts ts s e) ts).getD (ts.length / 2 - 1) 0) []) _ _ s e) ++ partF Ts n _ (segMk (Ts.getD ((orderT (mkF Ts ts s e) ts).getD (ts.length / 2 - 1) 0) []) _ _ s e) e = _
  rw [e0]
theorem PartPre.step {Ts : List Steps} {n : Nat} {ts : List Nat} {s e : Rat} {D : Nat} (q : PartPre Ts (n + 1) ts s e D) (hl : 2 ≤ ts.length) {t0 : Nat} (ht0 : (orderT (mkF Ts ts s e) ts)[ts.length / 2 - 1]? = some t0) :
    ∃ D1, PartPre Ts n (sub ts ((orderT (mkF Ts ts s e) ts).take (ts.length / 2))) s (mkF Ts ts s e t0) D1 ∧ PartPre Ts n (sub ts ((orderT (mkF Ts ts s e) ts).drop (ts.length / 2))) (mkF Ts ts s e t0) e D1 := by
  obtain ⟨hT, hup, hlt, h1, h2, h8, hD, hDle, hs, he, hse⟩ := q
  generalize hm : ts.length = m at *
  generalize hh : m / 2 = h at *
  have h0 : 0 < h := by omega
  have hhm : h < m := by omega
  generalize hmk : mkF Ts ts s e = mk at *
  have emk : ∀ t, segMk (Ts.getD t []) h m s e = mk t := fun t => by
    rw [← hmk, ← hh, ← hm]
  generalize ho : orderT mk ts = o at *
  have op : o.Perm ts := by rw [← ho]; exact order_perm mk ts
  have olen : o.length = m := by rw [op.length_eq, hm]
  have ond : o.Nodup := op.nodup_iff.mpr (nodup_of_up hup)
  have ot : ∀ t ∈ o, t < Ts.length := fun t ht => hlt t (op.mem_iff.mp ht)
  have t0m : t0 ∈ o := List.mem_of_getElem? ht0
  have good : Good (Ts.getD t0 []) := getD_good hT (ot t0 t0m)
  have seg := seg_ok good h0 hhm h8 hs.1 hse he.2.1
  rw [emk] at seg
  obtain ⟨P, P0, P1, P2⟩ := good.grid
  obtain ⟨_, _, w, w1, w2, w3⟩ := seg_gr good P2 h0 hhm h8 hs hse he
  rw [emk] at w3
  have leD1 : m * P * D * w ≤ D * 2 ^ 23 := by
    have a1 : m * P ≤ 8 * 1000 := Nat.mul_le_mul h8 P1
    have a2 : m * P * w ≤ 8 * 1000 * 1000 := Nat.mul_le_mul a1 w2
    have a3 : m * P * D * w = D * (m * P * w) := by
      rw [Nat.mul_assoc (m * P) D w, Nat.mul_comm D w, ← Nat.mul_assoc, Nat.mul_comm]
    rw [a3]
    exact Nat.mul_le_mul_left _ (Nat.le_trans a2 (by decide))
  have oD : ∀ x, On D x → On (m * P * D * w) x := fun x hx => by
    have q := (hx.up (m * P)).up w
    rw [Nat.mul_comm D (m * P)] at q
    exact q
  have leD : m * P * D * w * 2 ^ (23 * n) ≤ 2 ^ 500 := by
    refine Nat.le_trans (Nat.mul_le_mul_right _ leD1) (Nat.le_trans ?_ hDle)
    rw [Nat.mul_assoc, ← Nat.pow_add]
    exact Nat.mul_le_mul_left _ (Nat.pow_le_pow_right (by decide) (by omega))
  have posD : 0 < m * P * D * w := Nat.mul_pos (Nat.mul_pos (Nat.mul_pos (by omega) P0) hD) (by omega)
  have tk : ∀ x ∈ o.take h, x ∈ ts := fun x hx => op.mem_iff.mp (List.mem_of_mem_take hx)
  have dr : ∀ x ∈ o.drop h, x ∈ ts := fun x hx => op.mem_iff.mp (List.mem_of_mem_drop hx)
  have pt := sub_perm hup (ond.sublist (List.take_sublist h o)) tk
  have pd := sub_perm hup (ond.sublist (List.drop_sublist h o)) dr
  have lt1 : (sub ts (o.take h)).length = h := by rw [pt.length_eq, List.length_take]; omega
  have ld1 : (sub ts (o.drop h)).length = m - h := by rw [pd.length_eq, List.length_drop]; omega
  have hp2 := two_pow_half h2
  rw [hh] at hp2
  refine ⟨m * P * D * w, ⟨hT, sub_up hup, fun t ht => hlt t (tk t (pt.mem_iff.mp ht)), by omega, by omega, by omega, posD, leD, oD s hs, w3, seg.2.2.1⟩, ⟨hT, sub_up hup, fun t ht => hlt t (dr t (pd.mem_iff.mp ht)), by omega, by omega, by omega, posD, leD, w3, oD e he, seg.2.2.2.1⟩⟩
end Fk
end
section
set_option Elab.async false
set_option linter.all false
set_option maxRecDepth 100000
set_option maxHeartbeats 2000000
namespace Fk
open PySem PySem.Spec PyProof.Rows L2 Evl
section
variable {P : Program} {w : World} {K : PySem.W.Frag} {mg : Str → Option Value} {base : Heap} {C CH : Addr} {H H' H0 : Hp} {σ : L2.St}
theorem ev_allV {te : TE} {bs : List Bool} (h : EvL te σ H (bs.map V.bl)) : Ev (tCB (rAll K) (tCons te tNil)) σ H (.bl (bs.all id)) := fun H1 x Q q =>
  h H1 x _ fun p H2 hp x2 h2 => ⟨p, bs, rfl, SqL.of h2, q H2 x2⟩
/-! ### check_takers -/
structure TInst (K : PySem.W.Frag) (C : Addr) : Prop where
  cls : PySem.W.findIn K (.ref C) "__class__" = some (some (.builtin "object.__class__"))
  get : PySem.W.specialIn K (.builtin "object.__class__") "__get__" = some (some (.builtin "getset_descriptor.__get__"))
  tak : PySem.W.takesIn K (.builtin "object.__class__") = some true
  mro : PySem.W.mroIn K C (.type "object") = some true
def TastesAt (K : PySem.W.Frag) (C : Addr) (H : Hp) (v : V) (Ts : List Steps) : Prop := ∃ a vs, v = .ref a ∧ SqL K H a vs ∧ vs.length = Ts.length ∧ ∀ (i : Nat) T, Ts[i]? = some T → ∃ y, vs[i]? = some y ∧ TasteAt K C H y T
theorem TastesAt.mono {v : V} {Ts : List Steps} (e : Ex H H') (h : TastesAt K C H v Ts) : TastesAt K C H' v Ts := by
  obtain ⟨a, vs, rfl, h1, h2, h3⟩ := h
  refine ⟨a, vs, rfl, ex_l e h1, h2, fun i T hi => ?_⟩
  obtain ⟨y, k1, k2⟩ := h3 i T hi
  exact ⟨y, k1, k2.mono e⟩
abbrev sTakers : Stmt := top 29
abbrev sDeal : Stmt := inClass (top 31) 0
abbrev sPart : Stmt := inClass (top 31) 1
theorem sc_takers : FnScope ["tastes", "least", "most", "taste"] ["tastes", "least", "most"] (defScope sTakers) := ⟨rfl, rfl, rfl, by decide +kernel, rfl, by decide +kernel, by decide +kernel⟩
theorem sc_deal : FnScope ["self", "tastes", "pieces", "taste", "k"] ["self", "tastes"] (defScope sDeal) := ⟨rfl, rfl, rfl, by decide +kernel, rfl, by decide +kernel, by decide +kernel⟩
abbrev nPart : List Str := ["self", "tastes", "takers", "start", "end", "pieces", "half", "order", "marks", "taker", "share", "at", "point"]
abbrev pPart : List Str := ["self", "tastes", "takers", "start", "end", "pieces"]
theorem sc_part : FnScope nPart pPart (defScope sPart) := ⟨rfl, rfl, rfl, by decide +kernel, rfl, by decide +kernel, by decide +kernel⟩
theorem ety_taste {te : TE} {v : V} {T : Steps} (c : TCls K C) (i : TInst K C) (h : Ev te σ H v) (ht : TasteAt K C H v T) : EvTy K te σ H (.ref C) := fun H1 x Q q => h H1 x _ fun H2 x2 => by
  obtain ⟨a, dx, l, t, rfl, h1, h2, h3⟩ := ht.mono (x.trans x2)
  exact q _ H2 x2 (.base (.ins h1 c.cl i.cls i.get i.tak i.mro))
/-- isinstance(e, C), C a class of the module -/
theorem pe_isc {X : Cx} {e : Expr} {ta : TE} {x : Str} {A : Addr} {p1 p2 pos : Pos} (K : PySem.W.Frag) (he : PE X e ta) (mi : X.mg "isinstance" = none) (mx : X.mg x = some (.ref A)) (hK : X.K = K := by rfl) (gi : Gl X "isinstance" := by rfl) (gx : Gl X x := by rfl) (hdb : (x == ("__debug__" : Str)) = false := by decide)
    (hs1 : starEach [e, .Name x p2] X.env = (false, eval e X.env) :: starEach [.Name x p2] X.env := by rfl) (hs2 : starEach [.Name x p2] X.env = (false, eval (.Name x p2) X.env) :: starEach [] X.env := by rfl) (hpl : (backTo pos (starEach [.Name x p2] X.env)).any (·.1) = false := by rfl) :
    PE X (.Call (.Name "isinstance" p1) [e, .Name x p2] [] pos) (tCB (rIsi K) (tCons ta (tCons (tC (.ref A)) tNil))) := by
  subst hK
  exact pe_callB call_isi gi mi boot_isinstance (pa_cons he (pa_cons (pe_gl mx gx hdb) pa_nil hs2) hs1) (by decide) (by decide) hs1 hpl
def spTakers (K : PySem.W.Frag) (C : Addr) : Sp := fun vs H Q _ => ∃ v lo hi Ts, vs = [v, .int lo, .int hi] ∧ TastesAt K C H v Ts ∧ lo ≤ (Ts.length : Int) ∧ (Ts.length : Int) ≤ hi ∧ hi ≤ 8 ∧ ∀ H', Ex H H' → Q .non H'
theorem kit_self : PySem.W.kitOne K (.ref C) (.ref C) = some true := by
  unfold PySem.W.kitOne
  rw [if_pos (by simp)]
theorem ok_takers {f : Addr} {fd : FuncData} (F : Fun K "check_takers" "check_takers" sTakers f fd) (c : TCls K C) (ti : TInst K C) (mT : mg "Taste" = some (.ref C)) (mi : mg "isinstance" = none) (mt : mg "list" = none) (ml : mg "len" = none) (ma : mg "all" = none) :
    FnOk P w K mg base CX0 1 f fd ["tastes", "least", "most"] (spTakers K C) := by
  refine F.ok sc_takers (fun vs H Q E h => by obtain ⟨p, dx, v, T, rfl, _⟩ := h; rfl) fun cdv A outer s0 H vs Q E hr h => ?_
  obtain ⟨v, lo, hi, Ts, rfl, hT, h1, h2, h8, hQ⟩ := h
  obtain ⟨a, vs, rfl, k1, k2, k3⟩ := hT
  refine ⟨_, pss_cons (ps_if (PW.pt (pw_or (pt_not (pt_val (pe_isi (pv 0) mi mt boot_list))) (pw_or1 (pt_not (pt_chain op_le op_le (pv 1) (pe_callB call_len_seq (by rfl) ml PySem.boot_len (pa1 (pv 0))) (pv 2)))))) (pss_one ps_never) pss_nil)
    (pss_one (ps_if (pt_not (pt_val (pe_callB (cr_all rfl) (by rfl) ma boot_all (pa1
        (pe_lc (own := [("taste", 3)]) (g := gName 3) (tt := tYes) (by rfl) sc_takers.nd (pi_list (pv 0)) (blkOk_by (own := [("taste", 3)]) (N := ["tastes", "least", "most", "taste"]) (sc := defScope sTakers) (by decide +kernel))
          (fun _ _ _ _ _ => pg_name (i := 3) sc_takers.nd rfl (Or.inl rfl)) (fun _ _ _ _ _ => pts_nil) (fun _ _ _ _ _ => pe_isc K (pv 3) mi mT)))))) (pss_one ps_never) pss_nil)), ?_⟩
  have ety : EvTy K (tVar 0) [some (.ref a), some (.int lo), some (.int hi), none] H (.type "list") := fun H1 x Q q => ⟨_, rfl, q _ H1 (Ex.refl H1) (by
    rcases ex_l x k1 with (h1 | ⟨o, h1⟩) | ⟨o, its, n, h1, h2, _⟩
    · exact .base (.lst h1)
    · exact .base (.frz h1)
    · exact .kList h1 h2)⟩
  refine q_when (b := false) (et_or (a := false) (b := false) (et_not (a := true) (et_B (ev_isi ety (.ty _) (kit_ty (by decide +kernel))))) fun _ =>
    et_is (et_not (et_chain (ev_var rfl) (ev_len (ev_var rfl) k1) (fun _ => ev_var rfl) rv_I0 rv_I0)) ?_) (fun hb => by cases hb) fun _ H1 e1 => ?_
  · rw [k2, decide_eq_true h1, decide_eq_true h2]
    rfl
  · have el := el_lcL (K := K) (te := tCB (rIsi K) (tCons (tVar 3) (tCons (tC (.ref C)) tNil))) (t := tYes) (j := 3) (vs := [3]) (σ := [some (.ref a), some (.int lo), some (.int hi), none]) (H := H1) (fun _ => true) (fun _ => V.bl true) (ev_var (i := 0) rfl) (ex_l e1 k1) (by omega) (fun _ => rfl) (fun _ _ _ _ _ => et_yes) (fun i x H2 e2 hx _ => by
      have hi2 : i < Ts.length := by
        rw [← k2]
        exact (List.getElem?_eq_some_iff.mp hx).1
      obtain ⟨y, q1, q2⟩ := k3 i _ (List.getElem?_eq_getElem hi2)
      obtain rfl : x = y := Option.some.inj (hx.symm.trans q1)
      exact ev_isi (ety_taste c ti (ev_var rfl) (q2.mono (e1.trans e2))) (.own C) kit_self)
    have eb : given vs.length (fun _ => true) (fun _ => V.bl true) = (((List.range vs.length).filter fun _ => true).map fun _ => true).map V.bl := by
      rw [List.map_map]
      rfl
    rw [eb] at el
    have ev := ev_is (ev_allV (K := K) el) (w := .bl true) (by simp)
    refine s_when (b := false) (et_not (a := true) (et_B ev)) (fun hb => by cases hb) fun _ H2 e2 => hQ H2 (e1.trans e2)
end
end Fk
end
section
set_option Elab.async false
set_option linter.all false
set_option maxRecDepth 100000
set_option maxHeartbeats 2000000
namespace Fk
open PySem PySem.Spec PyProof.Rows L2 Evl
/-! ### lists of takers -/
def nV (l : List Nat) : List V := l.map fun (t : Nat) => V.int (t : Int)
theorem nV_len (l : List Nat) : (nV l).length = l.length := List.length_map _
theorem nV_get {l : List Nat} {i t : Nat} (h : l[i]? = some t) : (nV l)[i]? = some (.int (t : Int)) := by
  unfold nV
  rw [List.getElem?_map, h]
  rfl
theorem nV_getV {l : List Nat} {i : Nat} {v : V} (h : (nV l)[i]? = some v) : ∃ t : Nat, l[i]? = some t ∧ v = .int (t : Int) := by
  unfold nV at h
  rw [List.getElem?_map] at h
  cases e : l[i]? with
  | none => rw [e] at h; cases h
  | some t =>
    rw [e] at h
    exact ⟨t, rfl, (Option.some.inj h).symm⟩
theorem cut_take (xs : List V) (h : Nat) : cutV xs none (some (h : Int)) = xs.take h := by
  unfold cutV
  rw [show HT.sIx xs.length 0 none = 0 from rfl, show HT.sIx xs.length xs.length (some (h : Int)) = min h xs.length from HT.sIx_nat _ _ _, List.drop_zero, Nat.sub_zero]
  rw [← List.take_eq_take_min]
theorem cut_drop (xs : List V) (h : Nat) : cutV xs (some (h : Int)) none = xs.drop h := by
  unfold cutV
  rw [show HT.sIx xs.length 0 (some (h : Int)) = min h xs.length from HT.sIx_nat _ _ _, show HT.sIx xs.length xs.length none = xs.length from rfl]
  have e : xs.drop (min h xs.length) = xs.drop h := by
    by_cases q : h ≤ xs.length
    · rw [Nat.min_eq_left q]
    · rw [Nat.min_eq_right (by omega), List.drop_eq_nil_of_le (Nat.le_refl _), List.drop_eq_nil_of_le (by omega)]
  rw [e]
  exact List.take_of_length_le (by rw [List.length_drop]; omega)
theorem nV_take (l : List Nat) (h : Nat) : (nV l).take h = nV (l.take h) := by unfold nV; rw [List.map_take]
theorem nV_drop (l : List Nat) (h : Nat) : (nV l).drop h = nV (l.drop h) := by unfold nV; rw [List.map_drop]
section
variable {P : Program} {w : World} {K : PySem.W.Frag} {mg : Str → Option Value} {base : Heap} {C CH : Addr} {H H' H0 : Hp} {σ : L2.St} {v : V} {d : PyData} {te td ty to ti : TE} {D : Ends} {tz : TS}
/-! ### steps that the part takes -/
/-- list-free data stand apart from what is no tuple -/
theorem sqt_hidX {l : Addr} {o : HO} (hl : H l = some o) (h1 : ∀ zs, o ≠ .tup zs) (h2 : ∀ ob u, o ≠ .frz ob u) : ∀ a ys, SqT K H a ys → SqT K (hid l H) a ys := fun a ys h => by
  rcases h with (h | ⟨ob, h⟩) | h
  · refine .inl (.inl ?_)
    rw [hid_ne]
    · exact h
    · intro q
      rw [q, hl] at h
      exact h1 ys (Option.some.inj h)
  · refine .inl (.inr ⟨ob, ?_⟩)
    rw [hid_ne]
    · exact h
    · intro q
      rw [q, hl] at h
      exact h2 ob _ (Option.some.inj h)
  · exact .inr h
theorem _root_.L2.Dp.updK {l : Addr} {kvs : List (Key × V)} {o : HO} {n : Nat} (hl : H l = some (.dK kvs)) (hn : nlD n d = true) (h : Dp K H v d) : Dp K (L2.upd H l o) v d :=
  (dp_keepT (sqt_hidX hl (fun _ q => by cases q) (fun _ _ q => by cases q)) n d v hn h).mono ex_hid_upd
theorem ed_dget {a : Addr} {kvs : List (Key × V)} {i : Int} (h1 : Ev td σ H (.ref a)) (h2 : Ev ty σ H (.int i)) (hk : H a = some (.dK kvs)) (hv : valV kvs (.inl i) = some v) (hd : Dp K H v d) : EvD K (tDGet td ty) σ H d := fun H1 x Q q =>
  h1 H1 x _ fun H2 x2 => h2 H2 (x.trans x2) _ fun H3 x3 => ⟨a, v, rfl, by
    have g := DGet.k (k := Sum.inl i) (((x.trans x2).trans x3) _ _ hk)
    rw [hv] at g
    exact g, q v H3 (x2.trans x3) (hd.mono ((x.trans x2).trans x3))⟩
theorem q_dput {a : Addr} {kvs : List (Key × V)} {i : Int} (hk : H a = some (.dK kvs)) (hl : kvs.length < 100000) (h : EvD K te σ H d) (h1 : Ev td σ H (.ref a)) (h2 : Ev ty σ H (.int i)) (k : ∀ v H1, Ex H H1 → Dp K H1 v d → tz D σ (L2.upd H1 a (.dK (putK kvs (.inl i) v)))) : tSeq (sDPut td ty te) tz D σ H :=
  h H (Ex.refl H) _ fun v H1 e1 hv => h1 H1 e1 _ fun H2 e2 => h2 H2 (e1.trans e2) _ fun H3 e3 => ⟨a, _, rfl, DPut.k (k := Sum.inl i) (((e1.trans e2).trans e3) _ _ hk) (sz_lt hl), k v H3 ((e1.trans e2).trans e3) (hv.mono (e2.trans e3))⟩
/-- xs.insert(i, y) -/
def rInsert : V → List V → Hp → VK → Prop := fun x vs H Q => ∃ (l : Addr) (xs : List V) (i : Int) (y : V), x = .ref l ∧ vs = [.int i, y] ∧ H l = some (.lst xs) ∧ xs.length < sizeLine ∧ 0 ≤ i ∧ i < 2 ^ 63 ∧
    Q .non (L2.upd H l (.lst (xs.take i.toNat ++ [y] ++ xs.drop i.toNat)))
theorem s_insert {i j k a : Nat} {l : Addr} {xs : List V} (hi : σ[i]? = some (some (.ref l))) (hj : σ[j]? = some (some (.int (a : Int)))) (hk : σ[k]? = some (some v)) (hl : H l = some (.lst xs)) (hz : xs.length < 100000) (ha : a < 100000) (q : D.nx σ (L2.upd H l (.lst (xs.take a ++ [v] ++ xs.drop a)))) :
    tDrop (tBM K "list" rInsert (tVar i) (tCons (tVar j) (tCons (tVar k) tNil))) D σ H := by
  refine ⟨_, hi, Or.inl ⟨rfl, xs, SqL.of hl⟩, _, hj, _, hk, l, xs, (a : Int), v, rfl, rfl, hl, sz_lt hz, by omega, by omega, ?_⟩
  rw [Int.toNat_natCast]
  exact q
/-- xs[i] = [..], a new list -/
theorem q_setLD {ds : List PyData} {l : Addr} {xs : List V} {j : Nat} (hl : H l = some (.lst xs)) (h : EvLD K te σ H ds) (ho : ∀ H1, Ex H H1 → Ev to σ H1 (.ref l)) (hi : ∀ H1, Ex H H1 → Ev ti σ H1 (.int (j : Int))) (hj : j < xs.length) (k : ∀ p vs H1, H p = none → Ex H H1 → H1 p = some (.lst vs) → DpAll K H1 vs ds → tz D σ (L2.upd H1 l (.lst (xs.set j (.ref p))))) :
    tSeq (tAsg te (gSub to ti rSetL)) tz D σ H := h H (Ex.refl H) _ fun p vs H1 hp e1 h1 hv => ho H1 e1 H1 (Ex.refl H1) _ fun H2 e2 => hi H2 (e1.trans e2) H2 (Ex.refl H2) _ fun H3 e3 =>
  ⟨l, xs, (j : Int), j, rfl, rfl, ((e1.trans e2).trans e3) l _ hl, ixN_nat hj, k p vs H3 hp ((e1.trans e2).trans e3) ((e2.trans e3) _ _ h1) (hv.mono (e2.trans e3))⟩
theorem ex_hid_hid {l : Addr} (e : Ex (hid l H) H') : Ex (hid l H) (hid l H') := fun b o h => by
  have nb : b ≠ l := fun q => by
    rw [q, hid_at] at h
    cases h
  rw [hid_ne nb]
  exact e b o h
theorem ex_upd_fresh {l : Addr} {o : HO} (h0 : H l = none) (e : Ex H H') : Ex H (L2.upd H' l o) := Ex.mut e h0
/-- sorted(xs), some of the takers -/
theorem el_sorted {ts l : List Nat} (hup : ts.Pairwise (· < ·)) (hl : l.Nodup) (hs : ∀ x ∈ l, x ∈ ts) (h64 : l.length < 64) (h : EvL te σ H (nV l)) : EvL (tCB (rSorted K) (tCons te tNil)) σ H (nV (sub ts l)) := fun H1 x Q q =>
  h H1 x _ fun p H2 hp x2 h2 => ⟨p, l.map fun (t : Nat) => (t : Int), rfl, by
    rw [List.map_map]
    exact SqL.of h2, by rw [List.length_map]; exact h64, fun ns' r hperm hle hr => by
    have e := sub_sorted hup hl hs hperm hle
    have e2 : ns'.map V.int = nV (sub ts l) := by
      rw [e, List.map_map]
      rfl
    rw [e2]
    exact q r _ (fresh_back x2 hr) (x2.trans (Ex.new hr)) upd_same⟩
/-! ### pieces as slots -/
def spanD (x : Rat × Rat) : PyData := .tuple [frD x.1, frD x.2]
theorem spanD_nl (x : Rat × Rat) : nlD 2 (spanD x) = true := rfl
theorem spanD_ok (x : Rat × Rat) : okD 2 (spanD x) = true := rfl
def Slot (K : PySem.W.Frag) (H0 H : Hp) (v : V) (x : Rat × Rat) : Prop := ∃ q y, v = .ref q ∧ H0 q = none ∧ H q = some (.lst [y]) ∧ Dp K H y (spanD x)
theorem Slot.mono {x : Rat × Rat} (e : Ex H H') (h : Slot K H0 H v x) : Slot K H0 H' v x := by
  obtain ⟨q, y, rfl, h1, h2, h3⟩ := h
  exact ⟨q, y, rfl, h1, e _ _ h2, h3.mono e⟩
theorem Slot.back {x : Rat × Rat} {H1 : Hp} (e : Ex H1 H0) (h : Slot K H0 H v x) : Slot K H1 H v x := by
  obtain ⟨q, y, rfl, h1, h2, h3⟩ := h
  exact ⟨q, y, rfl, fresh_back e h1, h2, h3⟩
def Placed (K : PySem.W.Frag) (H0 H : Hp) (xs xs' : List V) (L : List Leaf) : Prop := xs'.length = xs.length ∧ (∀ i : Nat, (∀ x ∈ L, x.1 ≠ i) → xs'[i]? = xs[i]?) ∧ ∀ x ∈ L, ∃ v, xs'[x.1]? = some v ∧ Slot K H0 H v x.2
theorem Placed.trans {H1 H2 H3 : Hp} {xs xs1 xs2 : List V} {L1 L2 : List Leaf} (a : Placed K H0 H1 xs xs1 L1) (b : Placed K H2 H3 xs1 xs2 L2) (e02 : Ex H0 H2) (e13 : Ex H1 H3) (hd : ∀ x ∈ L1, ∀ y ∈ L2, y.1 ≠ x.1) : Placed K H0 H3 xs xs2 (L1 ++ L2) := by
  obtain ⟨a1, a2, a3⟩ := a
  obtain ⟨b1, b2, b3⟩ := b
  refine ⟨b1.trans a1, fun i hi => ?_, fun x hx => ?_⟩
  · rw [b2 i fun x hx => hi x (List.mem_append_right _ hx), a2 i fun x hx => hi x (List.mem_append_left _ hx)]
  · rcases List.mem_append.mp hx with hx | hx
    · obtain ⟨v, v1, v2⟩ := a3 x hx
      refine ⟨v, ?_, v2.mono e13⟩
      rw [b2 x.1 fun y hy => hd x hx y hy]
      exact v1
    · obtain ⟨v, v1, v2⟩ := b3 x hx
      exact ⟨v, v1, v2.back e02⟩
def spPart (K : PySem.W.Frag) (C CH : Addr) (n : Nat) : Sp := fun args H Q _ => ∃ hs dx vt k vs ve pc xs Ts ts s e D, args = [.ref hs, vt, .ref k, vs, ve, .ref pc] ∧ H hs = some (.ins CH dx []) ∧ H pc = some (.lst xs) ∧ xs.length = Ts.length ∧ TastesAt K C (hid pc H) vt Ts ∧ SqL K (hid pc H) k (nV ts) ∧
  Dp K (hid pc H) vs (frD s) ∧ Dp K (hid pc H) ve (frD e) ∧ PartPre Ts n ts s e D ∧ ∀ H' xs', Ex (hid pc H) (hid pc H') → H' pc = some (.lst xs') → Placed K (hid pc H) (hid pc H') xs xs' (partF Ts n ts s e) → Q .non H'
/-- the first statement: a span for one taker is its -/
def tOne (K : PySem.W.Frag) : TS := tIfS (tTest (tOp rEq (tCB (rLenS K) (tCons (tVar 2) tNil)) (tC (.int 1)))) (tSeq (tAsg (tLst (tCons (tTup (tCons (tVar 3) (tCons (tVar 4) tNil))) tNil)) (gSub (tVar 5) (tOp (rIxL K) (tVar 2) (tC (.int 0))) rSetL)) tRetN) tNext
theorem part_first {n : Nat} {hs dx : Addr} {vt vs ve : V} {k pc : Addr} {xs : List V} {Ts : List Steps} {ts : List Nat} {s e : Rat} {G : Nat} {Q : VK} {nx : L2.St → Hp → Prop} (hpc : H pc = some (.lst xs)) (hlen : xs.length = Ts.length) (hk : SqL K (hid pc H) k (nV ts)) (hvs : Dp K (hid pc H) vs (frD s)) (hve : Dp K (hid pc H) ve (frD e)) (pre : PartPre Ts n ts s e G)
    (hQ : ∀ H' xs', Ex (hid pc H) (hid pc H') → H' pc = some (.lst xs') → Placed K (hid pc H) (hid pc H') xs xs' (partF Ts n ts s e) → Q .non H')
    (hσ : σ = [some (.ref hs), some vt, some (.ref k), some vs, some ve, some (.ref pc), none, none, none, none, none, none, none])
    (go : 2 ≤ ts.length → ∀ H1, Ex H H1 → tz { nx := nx, rt := Q } σ H1) : tSeq (tOne K) tz { nx := nx, rt := Q } σ H := by
  subst hσ
  have hk' := ex_l hid_ex hk
  refine q_when (b := decide (V.int ((nV ts).length : Int) = V.int 1)) (et_test (ev_op (ev_len (ev_var rfl) hk') ev_c (rv_eq rfl))) (fun hb H1 e1 => ?_) fun hb H1 e1 => ?_
  · have e0 : ((nV ts).length : Int) = 1 := V.int.inj (of_decide_eq_true hb)
    rw [nV_len] at e0
    obtain ⟨t, rfl⟩ := one_of (ts := ts) (by omega) (by omega)
    have ht := pre.lt t (List.mem_singleton.mpr rfl)
    rw [partF_one] at hQ
    refine q_setLD (j := t) (e1 _ _ hpc) (eld_lst (ead_cons (ed_tup (ead_cons (ed_var rfl ((hvs.mono hid_ex).mono e1)) (ead_cons (ed_var rfl ((hve.mono hid_ex).mono e1)) ead_nil)) (by show 2 ≤ 100000; decide)) ead_nil) (by show 1 ≤ 100000; decide))
      (fun H2 e2 => ev_var rfl) (fun H2 e2 => ev_op (ev_var rfl) ev_c (rv_ixL (ex_l (e1.trans e2) hk') rfl)) (by omega) fun q ws H2 hq e2 h2 hws => ?_
    obtain ⟨y, rfl, hy⟩ := dps1 hws
    have hqH : H q = none := fresh_back e1 hq
    have hqp : q ≠ pc := fun z => by
      rw [z, hpc] at hqH
      cases hqH
    have eh : Ex (hid pc H) (hid pc H2) := hid_mono (e1.trans e2)
    refine hQ _ (xs.set t (.ref q)) ?_ upd_same ⟨List.length_set, fun i hi => ?_, fun x hx => ?_⟩
    · rw [hid_upd]
      exact eh
    · have : t ≠ i := hi (t, s, e) (List.mem_singleton.mpr rfl)
      rw [List.getElem?_set_ne this]
    · rcases List.mem_singleton.mp hx with rfl
      refine ⟨.ref q, List.getElem?_set_self (by omega), q, y, rfl, by rw [hid_ne hqp]; exact hqH, ?_, ?_⟩
      · rw [hid_upd, hid_ne hqp]
        exact h2
      · rw [hid_upd]
        exact hy.hid (((e1.trans e2)) _ _ hpc) (n := 2) rfl
  · have e0 : ((nV ts).length : Int) ≠ 1 := fun z => of_decide_eq_false hb (by rw [z])
    rw [nV_len] at e0
    have := pre.one
    exact go (by omega) H1 e1
end
end Fk
end
section
set_option Elab.async false
set_option linter.all false
set_option maxRecDepth 100000
set_option maxHeartbeats 4000000
namespace Fk
open PySem PySem.Spec PyProof.Rows L2 Evl
theorem R_timesP {h m : Nat} {q : Rat} (h0 : 0 < h) (hm : 0 < m) (h8 : h ≤ 1000) (m8 : m ≤ 1000) (hq : 0 ≤ q) (b : Bd 2000 q) : R_op gTimes hPlus [pr (h : Int) (m : Int), frD q] (frD ((h : Rat) / (m : Rat) * q)) := by
  have s1 : Sm 2000 (h : Int) := (Sm.small (by omega)).mono (by decide)
  have s2 : Sm 2000 (m : Int) := (Sm.small (by omega)).mono (by decide)
  refine ⟨h, m, q.num, q.den, rfl, s1, s2, b.1, b.2, Int.mul_nonneg (by omega) (Rat.num_nonneg.mpr hq), Int.mul_pos (by omega) (den_pos q), ?_⟩
  show frD _ = frD (Rat.divInt ((h : Int) * q.num) ((m : Int) * (q.den : Int)))
  rw [← Rat.divInt_mul_divInt, low_self, Rat.divInt_eq_div]
  rfl
/-- sizes of what the marking needs -/
theorem seg_bd {T : Steps} (g : Good T) {h m D : Nat} {s e : Rat} (h0 : 0 < h) (hm : h < m) (m8 : m ≤ 8) (D0 : 0 < D) (hD : D ≤ 2 ^ 500) (hs : On D s) (hse : s < e) (he : On D e) :
    (∃ G, GT G T ∧ On G s ∧ On G e ∧ Gr G ((h : Rat) / (m : Rat) * areaS 0 T s e)) ∧ 0 ≤ areaS 0 T s e / tot T ∧ Bd 2000 (areaS 0 T s e / tot T) ∧ Bd 2000 ((h : Rat) / (m : Rat) * (areaS 0 T s e / tot T)) := by
  obtain ⟨P, P0, P1, P2⟩ := g.grid
  obtain ⟨gl, gT, _⟩ := seg_gr g P2 h0 hm m8 hs hse he
  have hG : GT (m * P * D) T := by
    refine ⟨Nat.mul_pos (Nat.mul_pos (by omega) P0) D0, ?_, gT⟩
    have a1 : m * P ≤ 2 ^ 13 := Nat.le_trans (Nat.mul_le_mul m8 P1) (by decide)
    refine Nat.le_trans (Nat.mul_le_mul a1 hD) ?_
    rw [← Nat.pow_add]
    exact Nat.pow_le_pow_right (by decide) (by decide)
  have os : On (m * P * D) s := by
    have q := hs.up (m * P)
    rw [Nat.mul_comm D (m * P)] at q
    exact q
  have oe : On (m * P * D) e := by
    have q := he.up (m * P)
    rw [Nat.mul_comm D (m * P)] at q
    exact q
  have tp := g.tot_pos
  have q1 : areaS 0 T s e ≤ tot T := by
    have a1 := areaS_add T 0 0 s 1 hs.1 hs.2.1
    have a2 := areaS_add T 0 s e 1 (by grind) he.2.1
    have n1 := areaS_nonneg T 0 0 s
    have n2 := areaS_nonneg T 0 e 1
    show areaS 0 T s e ≤ areaS 0 T 0 1
    grind
  have nn := areaS_nonneg T 0 s e
  have qe : areaS 0 T s e / tot T * tot T = areaS 0 T s e := Rat.div_mul_cancel (by grind)
  have q0 : 0 ≤ areaS 0 T s e / tot T := Rat.le_of_mul_le_mul_right (c := tot T) (by rw [qe]; grind) tp
  have q2 : areaS 0 T s e / tot T ≤ 1 := Rat.le_of_mul_le_mul_right (c := tot T) (by rw [qe]; grind) tp
  obtain ⟨w1, w2, w3⟩ := hm_pos h0 hm
  have gt : Gr (m * P * D) (tot T) := area_gr hG (on0 _) (on1 _)
  have pow1 : ∀ b, b ≤ 8000 * (m * P * D) → b ≤ 2 ^ 1500 := fun b hb => by
    refine Nat.le_trans hb ?_
    refine Nat.le_trans (Nat.mul_le_mul (show 8000 ≤ 2 ^ 13 by decide) hG.2.1) ?_
    rw [← Nat.pow_add]
    exact Nat.pow_le_pow_right (by decide) (by decide)
  refine ⟨⟨m * P * D, hG, os, oe, gl⟩, q0, ?_, ?_⟩
  · obtain ⟨b, b0, b1, b2⟩ := div_gr hG.1 (area_gr hG os oe) gt tp (g.tot_le 0 1)
    exact bdG' (M := 1) b0 (pow1 b b1) b2 q0 (by simpa using q2) (by decide)
  · obtain ⟨b, b0, b1, b2⟩ := div_gr hG.1 gl gt tp (g.tot_le 0 1)
    have e1 : (h : Rat) / (m : Rat) * areaS 0 T s e / tot T = (h : Rat) / (m : Rat) * (areaS 0 T s e / tot T) := by grind
    rw [e1] at b2
    have p0 : 0 ≤ (h : Rat) / (m : Rat) * (areaS 0 T s e / tot T) := Rat.mul_nonneg (by grind) q0
    have p1 : (h : Rat) / (m : Rat) * (areaS 0 T s e / tot T) ≤ 1 := by
      have a := Rat.mul_le_mul_of_nonneg_left q2 (show 0 ≤ (h : Rat) / (m : Rat) by grind)
      grind
    exact bdG' (M := 1) b0 (pow1 b b1) b2 p0 (by simpa using p1) (by decide)
section
variable {P : Program} {w : World} {K : PySem.W.Frag} {mg : Str → Option Value} {base : Heap} {C CH : Addr} {H H' H0 : Hp} {σ : L2.St} {v : V} {d : PyData} {te td ty to ti : TE} {D : Ends} {tz : TS}
theorem boot_sorted : bootBuiltins "sorted" = some (.builtin "sorted") := by decide +kernel
/-- five arguments, the second a new list -/
theorem args5 {i1 i3 i4 i5 : Nat} {t2 : TE} {v1 v3 v4 v5 : V} {ys : List V} {Q : List V → Hp → Prop} (h1 : σ[i1]? = some (some v1)) (h2 : EvL t2 σ H ys) (h3 : σ[i3]? = some (some v3)) (h4 : σ[i4]? = some (some v4)) (h5 : σ[i5]? = some (some v5))
    (k : ∀ p H1, H p = none → Ex H H1 → H1 p = some (.lst ys) → Q [v1, .ref p, v3, v4, v5] H1) : tCons (tVar i1) (tCons t2 (tCons (tVar i3) (tCons (tVar i4) (tCons (tVar i5) tNil)))) σ H Q :=
  ⟨_, h1, h2 H (Ex.refl H) _ fun p H1 hp e1 hl => ⟨_, h3, _, h4, _, h5, k p H1 hp e1 hl⟩⟩
theorem TastesAt.get {vt : V} {Ts : List Steps} (h : TastesAt K C H vt Ts) {t : Nat} (ht : t < Ts.length) : ∃ a vs y, vt = .ref a ∧ SqL K H a vs ∧ vs[t]? = some y ∧ TasteAt K C H y (Ts.getD t []) := by
  obtain ⟨a, vs, rfl, h1, h2, h3⟩ := h
  obtain ⟨y, k1, k2⟩ := h3 t (Ts[t]) (List.getElem?_eq_getElem ht)
  have e : Ts.getD t [] = Ts[t] := by simp [List.getD, ht]
  exact ⟨a, vs, y, rfl, h1, k1, by rw [e]; exact k2⟩
/-- the callees of part -/
structure PartEnv (P : Program) (w : World) (K : PySem.W.Frag) (mg : Str → Option Value) (base : Heap) (C CH : Addr) : Prop where
  tc : TCls K C
  hc : Cls K CH
  below : Has P w K mg base "below" 1 ["one", "other"] (spP K R_below)
  times : Has P w K mg base "times" 2 ["one", "other"] (spP K (R_op gTimes hPlus))
  within : HasM P w K mg base C "within" 4 ["self", "start", "end"] (spM (TasteAt K C) K R_within)
  mark : HasM P w K mg base C "mark" 4 ["self", "start", "share"] (spM (TasteAt K C) K R_mark)
  len : mg "len" = none
  srt : mg "sorted" = none
theorem HasM.mono {m : Str} {j k : Nat} {ps : List Str} {sp : Sp} (G : HasM P w K mg base C m j ps sp) (h : j ≤ k) : HasM P w K mg base C m k ps sp := by
  obtain ⟨f, fd, h1, h2, h3⟩ := G
  exact ⟨f, fd, h1, h2, h3.mono h⟩
def PInv (K : PySem.W.Frag) (Hb : Hp) (hs ta k pc lo dm : Addr) (vs ve : V) (h : Nat) (Ts : List Steps) (ts : List Nat) (s e : Rat) (xs : List V) (i : Nat) (σ : L2.St) (H' : Hp) : Prop :=
  ∃ kvs x9 x10 x11, σ = [some (.ref hs), some (.ref ta), some (.ref k), some vs, some ve, some (.ref pc), some (.int (h : Int)), some (.ref lo), some (.ref dm), x9, x10, x11, none] ∧ Ex Hb H' ∧ H' pc = some (.lst xs) ∧
      H' lo = some (.lst (nV (orderT (mkF Ts ts s e) (ts.take i)))) ∧ H' dm = some (.dK kvs) ∧ kvs.length ≤ i ∧ ∀ t ∈ ts.take i, ∃ v, valV kvs (.inl (t : Int)) = some v ∧ Dp K H' v (frD (mkF Ts ts s e t))
theorem Placed.back {H1 H2 : Hp} {xs xs1 : List V} {L1 : List Leaf} (a : Placed K H1 H2 xs xs1 L1) (e : Ex H0 H1) : Placed K H0 H2 xs xs1 L1 := by
  obtain ⟨a1, a2, a3⟩ := a
  refine ⟨a1, a2, fun x hx => ?_⟩
  obtain ⟨v, v1, v2⟩ := a3 x hx
  exact ⟨v, v1, v2.back e⟩
theorem q_dnew {i : Nat} (h : ∀ p, H p = none → tz D (σ.set i (some (.ref p))) (L2.upd H p (.dK []))) : tSeq (tAsg tDNewK (gName i)) tz D σ H := h
theorem part_zero {f : Addr} {fd : FuncData} (F : Fun K "part" "Halves.part" sPart f fd) (E0' : PartEnv P w K mg base C CH) : FnOk P w K mg base CX0 5 f fd pPart (spPart K C CH 0) := by
  refine F.ok sc_part (fun vs H Q E h => by obtain ⟨hs, dx, vt, k, vs, ve, pc, xs, Ts, ts, s, e, G, rfl, _⟩ := h; rfl) fun cdv A outer s0 H vs Q E hr h => ?_
  obtain ⟨hs, dx, vt, k, vs, ve, pc, xs, Ts, ts, s, e, G, rfl, h1, hpc, hlen, hT, hk, hvs, hve, pre, hQ⟩ := h
  refine ⟨_, pss_cons (ps_if (pt_cmpR op_eq (lenk K E0'.len (pv 2)) pe_int (nomark _)) (pss_cons (ps_asg (pe_lst (pa1 (pe_tup (pa2 (pv 3) (pv 4))))) (pg_sub (pv 5) (ixlk K (pv 2) pe_int) set_list)) (pss_one ps_retN)) pss_nil) pss_never, ?_⟩
  refine part_first (dx := dx) hpc hlen hk hvs hve pre hQ rfl fun h2 => ?_
  have := pre.pow
  omega
theorem part_succ {n : Nat} {f : Addr} {fd : FuncData} (F : Fun K "part" "Halves.part" sPart f fd) (E0' : PartEnv P w K mg base C CH) (Mp : HasM P w K mg base CH "part" (5 + n) pPart (spPart K C CH n)) : FnOk P w K mg base CX0 (5 + (n + 1)) f fd pPart (spPart K C CH (n + 1)) := by
  refine F.ok sc_part (fun vs H Q E h => by obtain ⟨hs, dx, vt, k, vs, ve, pc, xs, Ts, ts, s, e, G, rfl, _⟩ := h; rfl) fun cdv A outer s0 H vs Q E hr h => ?_
  obtain ⟨hs, dx, vt, k, vs, ve, pc, xs, Ts, ts, s, e, G, rfl, h1, hpc, hlen, hT, hk, hvs, hve, pre, hQ⟩ := h
  refine ⟨_, pss_cons (ps_if (pt_cmpR op_eq (lenk K E0'.len (pv 2)) pe_int (nomark _)) (pss_cons (ps_asg (pe_lst (pa1 (pe_tup (pa2 (pv 3) (pv 4))))) (pg_sub (pv 5) (ixlk K (pv 2) pe_int) set_list)) (pss_one ps_retN)) pss_nil)
    (pss_cons (ps_set (i := 6) sc_part.nd rfl (.inl rfl) (pe_op op_fdiv (lenk K E0'.len (pv 2)) pe_int))
    (pss_cons (ps_set (i := 7) sc_part.nd rfl (.inl rfl) (pe_lst pa_nil))
    (pss_cons (ps_set (i := 8) sc_part.nd rfl (.inl rfl) pe_dnewK)
    (pss_cons (ps_for PassesOwn.never rfl (pi_list (pv 2)) (pg_name (i := 9) sc_part.nd rfl (.inl rfl))
      (pss_cons (ps_set (i := 10) sc_part.nd rfl (.inl rfl) (pe_callH (E0'.times.mono (k := 5 + n) (by omega)) hr (pa2 (pe_tup (pa2 (pv 6) (lenk K E0'.len (pv 2)))) (pe_methH (ixlk K (pv 1) (pv 9)) E0'.tc.cl (E0'.within.mono (k := 5 + n) (by omega)) hr (pa2 (pv 3) (pv 4))))))
      (pss_cons (ps_dput (hu_of hr) (pv 8) (pv 9) (pe_methH (ixlk K (pv 1) (pv 9)) E0'.tc.cl (E0'.mark.mono (k := 5 + n) (by omega)) hr (pa2 (pv 3) (pv 10))) rfl)
      (pss_cons (ps_set (i := 11) sc_part.nd rfl (.inl rfl) pe_int)
      (pss_cons (ps_while PassesOwn.never (PW.pt (pw_and (pt_cmpR op_lt (pv 11) (lenk K E0'.len (pv 7)) (nomark _)) (pw_and1 (pt_not (pt_val (pe_callH (E0'.below.mono (k := 5 + n) (by omega)) hr (pa2 (pe_dget (hu_of hr) (pv 8) (pv 9) (fun _ _ => rfl)) (pe_dget (hu_of hr) (pv 8) (ixlk K (pv 7) (pv 11)) (fun _ _ => rfl)))))))))
        (pss_one (ps_aug (i := 11) sc_part.nd rfl (.inl rfl) pe_int ip_add)))
      (pss_one (ps_expr (pe_bm PySem.F.plainAttrs_list PySem.F.slot_list_insert PySem.F.type_list_insert mt_insert (pv 7) (pa2 (pv 11) (pv 9))))))))))
    (pss_cons (ps_set (i := 12) sc_part.nd rfl (.inl rfl) (pe_dget (hu_of hr) (pv 8) (ixlk K (pv 7) (pe_op op_sub (pv 6) pe_int)) (fun _ _ => rfl)))
    (pss_cons (ps_expr (pe_methH (pv 0) E0'.hc Mp hr (pa_cons (pv 1) (pa_cons (pe_callB cr_sorted (by rfl) E0'.srt boot_sorted (pa1 (pe_slice sl_list (pv 7) po_none (po_some (pv 6))))) (pa_cons (pv 3) (pa_cons (pv 12) (pa_cons (pv 5) pa_nil)))))))
    (pss_one (ps_expr (pe_methH (pv 0) E0'.hc Mp hr (pa_cons (pv 1) (pa_cons (pe_callB cr_sorted (by rfl) E0'.srt boot_sorted (pa1 (pe_slice sl_list (pv 7) (po_some (pv 6)) po_none))) (pa_cons (pv 12) (pa_cons (pv 4) (pa_cons (pv 5) pa_nil)))))))))))))), ?_⟩
  refine part_first (dx := dx) hpc hlen hk hvs hve pre hQ rfl fun hm2 H1 e1 => ?_
  obtain ⟨ta, tvs, rfl, t1, t2, t3⟩ := id hT
  have hup := pre.up
  have h8 := pre.most
  have eHb : Ex (hid pc H) H1 := hid_ex.trans e1
  generalize hh : ts.length / 2 = h at *
  have h0 : 0 < h := by omega
  have hhm : h < ts.length := by omega
  -- half, order, marks
  refine q_asg (v := .int (h : Int)) (ev_is (ev_op (ev_len (ev_var rfl) (ex_l eHb hk)) ev_c (rv_I ⟨by decide, by decide⟩)) ?_) fun H2 e2 => ?_
  · rw [nV_len, ← hh]
    exact congrArg V.int (by omega)
  refine q_asgL (el_lst ea_nil (Nat.zero_le _)) fun lo H3 hlo0 e3 hlo => ?_
  refine q_dnew fun dm hdm => ?_
  have hHpc : ∀ {H' : Hp}, Ex H H' → H' pc = some (.lst xs) := fun e => e _ _ hpc
  have e03 := (e1.trans e2).trans e3
  have lopc : lo ≠ pc := fun q => by
    rw [q, (e1.trans e2) _ _ hpc] at hlo0
    cases hlo0
  have dmpc : dm ≠ pc := fun q => by
    rw [q, e03 _ _ hpc] at hdm
    cases hdm
  have lodm : lo ≠ dm := ne_of_none hlo hdm
  have hlo' : hid pc H lo = none := by
    rw [hid_ne lopc]
    exact fresh_back (e1.trans e2) hlo0
  have hdm' : hid pc H dm = none := by
    rw [hid_ne dmpc]
    exact fresh_back e03 hdm
  have hstart : hid pc H hs = some (.ins CH dx []) := by
    rw [hid_ne (ne_of h1 hpc (by intro z; cases z))]
    exact h1
  have eH4 : Ex (hid pc H) (L2.upd H3 dm (.dK [])) := Ex.mut (hid_ex.trans e03) hdm'
  -- the loop over the takers
  refine q_forLn (K := K) (a := k) (xs := nV ts) (ev_var rfl) (ex_l eH4 hk) (fun i σ H' => PInv K (hid pc H) hs ta k pc lo dm vs ve h Ts ts s e xs i σ H')
    (fun H5 e5 => ⟨[], none, none, none, rfl, eH4.trans e5, e5 _ _ (by rw [upd_ne dmpc.symm]; exact e03 _ _ hpc), e5 _ _ (by rw [upd_ne lodm]; exact hlo), e5 _ _ upd_same, Nat.le_refl _, fun t ht => by simp at ht⟩)
    (fun i σ' H' _ p => by obtain ⟨_, _, _, _, _, q, _⟩ := p; exact ex_l q hk) (fun i x σ' H' hx p => ?_) fun σ' H' p => ?_
  · obtain ⟨kvs, x9, x10, x11, rfl, hE, hpc', hlo2, hdm2, hkl, hmarks⟩ := p
    obtain ⟨t, hti, rfl⟩ := nV_getV hx
    have hi8 : i < 8 := by
      have := (List.getElem?_eq_some_iff.mp hti).1
      omega
    have htl := pre.lt t (List.mem_of_getElem? hti)
    obtain ⟨y, hy, hTa⟩ := t3 t (Ts[t]) (List.getElem?_eq_getElem htl)
    have eT : Ts.getD t [] = Ts[t] := by simp [List.getD, htl]
    rw [← eT] at hTa
    have good : Good (Ts.getD t []) := getD_good pre.good htl
    obtain ⟨⟨G', hG, os, oe, gl⟩, q0, bq, bsh⟩ := seg_bd good h0 hhm h8 pre.D0 (by
      have := pre.Dle
      exact Nat.le_trans (Nat.le_mul_of_pos_right _ (Nat.pow_pos (by decide))) this) pre.os pre.se pre.oe
    have sg := seg_ok good h0 hhm h8 pre.os.1 pre.se pre.oe.2.1
    have sl := seg_left good h ts.length s e
    -- share
    refine q_asgD (d := frD ((h : Rat) / (ts.length : Rat) * (areaS 0 (Ts.getD t []) s e / tot (Ts.getD t []))))
      (ed_call (ds := [pr (h : Int) (ts.length : Int), frD (areaS 0 (Ts.getD t []) s e / tot (Ts.getD t []))])
        (ead_cons (ed_tup (ead_cons (ed_int (ev_var rfl)) (ead_cons (ed_int (ev_is (ev_len (ev_var rfl) (ex_l hE hk)) (by rw [nV_len]))) ead_nil)) (by show 2 ≤ 100000; decide))
          (ead_cons (ed_methT (ev_op (ev_var rfl) (ev_var rfl) (rv_ixL (ex_l hE t1) (atI_nat hy))) (hTa.mono hE) (ead_cons (ed_var rfl (hvs.mono hE)) (ead_cons (ed_var rfl (hve.mono hE)) ead_nil)) ⟨good, s, e, G', rfl, hG, os, oe, rfl⟩) ead_nil))
        (R_timesP h0 (by omega) (by omega) (by omega) q0 bq)) fun v5 H5 e5 k5 => ?_
    have hE5 := hE.trans e5
    -- marks[taker]
    refine q_dput (a := dm) (kvs := kvs) (i := (t : Int)) (d := frD (mkF Ts ts s e t)) (e5 _ _ hdm2) (by omega)
      (ed_methT (ev_op (ev_var rfl) (ev_var rfl) (rv_ixL (ex_l hE5 t1) (atI_nat hy))) (hTa.mono hE5) (ead_cons (ed_var rfl (hvs.mono hE5)) (ead_cons (ed_var rfl k5) ead_nil))
        ⟨good, s, _, G', rfl, hG, os, Rat.mul_nonneg (Rat.le_of_lt (hm_pos h0 hhm).1) q0, bsh, by rw [sl]; exact gl, by rw [sl]; exact sg.1, by rw [sl]; exact sg.2.1, by show frD (segMk (Ts.getD t []) (ts.length / 2) ts.length s e) = _; rw [hh]; rfl⟩) (ev_var rfl) (ev_var rfl) fun v6 H6 e6 k6 => ?_
    have hdm6 := (e5.trans e6) _ _ hdm2
    have hlo6 := (e5.trans e6) _ _ hlo2
    -- at = 0
    refine q_asg (v := .int 0) ev_c fun H7 e7 => ?_
    have hE7 : Ex (hid pc H) H7 := (Ex.mut (hE5.trans e6) hdm').trans e7
    have hdm7 : H7 dm = some (.dK (putK kvs (.inl (t : Int)) v6)) := e7 _ _ upd_same
    have hlo7 : H7 lo = some (.lst (nV (orderT (mkF Ts ts s e) (ts.take i)))) := e7 _ _ (by rw [upd_ne lodm]; exact hlo6)
    have hpc7 : H7 pc = some (.lst xs) := e7 _ _ (by rw [upd_ne dmpc.symm]; exact (e5.trans e6) _ _ hpc')
    have hm7 : ∀ t' ∈ ts.take (i + 1), ∃ v, valV (putK kvs (.inl (t : Int)) v6) (.inl (t' : Int)) = some v ∧ Dp K H7 v (frD (mkF Ts ts s e t')) := fun t' ht' => by
      rw [valV_put]
      by_cases et : t' = t
      · subst et
        rw [if_pos rfl]
        exact ⟨v6, rfl, ((k6.updK hdm6 (n := 1) rfl).mono e7)⟩
      · rw [if_neg (fun z => et (by injection z with z; omega))]
        rw [List.take_add_one, hti] at ht'
        rcases List.mem_append.mp ht' with ht' | ht'
        · obtain ⟨v, q1, q2⟩ := hmarks t' ht'
          exact ⟨v, q1, ((q2.mono (e5.trans e6)).updK hdm6 (n := 1) rfl).mono e7⟩
        · exact absurd (List.mem_singleton.mp ht') et
    have tmem : t ∈ ts.take (i + 1) := by
      rw [List.take_add_one, hti]
      exact List.mem_append_right _ (List.mem_singleton.mpr rfl)
    have opi : (orderT (mkF Ts ts s e) (ts.take i)).Perm (ts.take i) := order_perm _ _
    have omem : ∀ (a x : Nat), (orderT (mkF Ts ts s e) (ts.take i))[a]? = some x → x ∈ ts.take (i + 1) := fun a x hx => by
      have q := opi.mem_iff.mp (List.mem_of_getElem? hx)
      rw [List.take_add_one]
      exact List.mem_append_left _ q
    have olen : (orderT (mkF Ts ts s e) (ts.take i)).length ≤ 8 := by
      rw [opi.length_eq, List.length_take]
      omega
    have bdm : ∀ x ∈ ts.take (i + 1), Bd 2000 (mkF Ts ts s e x) := fun x hx => by
      have hxl := pre.lt x (List.mem_of_mem_take hx)
      have gx := getD_good pre.good hxl
      obtain ⟨P, P0, P1, P2⟩ := gx.grid
      obtain ⟨_, _, w, w1, w2, w3⟩ := seg_gr gx P2 h0 hhm h8 pre.os pre.se pre.oe
      have e1' : mkF Ts ts s e x = segMk (Ts.getD x []) h ts.length s e := by
        show segMk _ (ts.length / 2) _ _ _ = _
        rw [hh]
      rw [e1']
      refine bdG' (M := 1) (Nat.mul_pos (Nat.mul_pos (Nat.mul_pos (by omega) P0) pre.D0) w1) ?_ w3.2.2 w3.1 (by simpa using w3.2.1) (by decide)
      have a1 : ts.length * P ≤ 2 ^ 13 := Nat.le_trans (Nat.mul_le_mul h8 P1) (by decide)
      have a2 : G ≤ 2 ^ 500 := Nat.le_trans (Nat.le_mul_of_pos_right _ (Nat.pow_pos (by decide))) pre.Dle
      refine Nat.le_trans (Nat.mul_le_mul (Nat.mul_le_mul a1 a2) (show w ≤ 2 ^ 10 by omega)) ?_
      rw [← Nat.pow_add, ← Nat.pow_add]
      exact Nat.pow_le_pow_right (by decide) (by decide)
    -- where it stands
    refine q_while (fun q σ H' => ∃ a : Nat, σ = [some (.ref hs), some (.ref ta), some (.ref k), some vs, some ve, some (.ref pc), some (.int (h : Int)), some (.ref lo), some (.ref dm), some (.int (t : Int)), some v5, some (.int (a : Int)), none] ∧ a ≤ (orderT (mkF Ts ts s e) (ts.take i)).length ∧
        (∀ (j x : Nat), (orderT (mkF Ts ts s e) (ts.take i))[j]? = some x → j < a → ¬ mkF Ts ts s e t < mkF Ts ts s e x) ∧ q = (orderT (mkF Ts ts s e) (ts.take i)).length - a ∧ Ex H7 H') _ ⟨0, rfl, Nat.zero_le _, fun _ _ _ z => absurd z (by omega), rfl, Ex.refl _⟩ ?_
    rintro q σ' H' ⟨a, rfl, hal, hbelow, rfl, hE8⟩
    generalize hO : orderT (mkF Ts ts s e) (ts.take i) = O at *
    have hlo8 := hE8 _ _ hlo7
    have hdm8 := hE8 _ _ hdm7
    have fin : (∀ x, O[a]? = some x → mkF Ts ts s e t < mkF Ts ts s e x) → ∀ H9, Ex H' H9 → ∀ D : Ends, (∀ σ H', PInv K (hid pc H) hs ta k pc lo dm vs ve h Ts ts s e xs (i + 1) σ H' → D.nx σ H') → tDrop (tBM K "list" rInsert (tVar 7) (tCons (tVar 11) (tCons (tVar 9) tNil))) D [some (.ref hs), some (.ref ta), some (.ref k), some vs, some ve, some (.ref pc), some (.int (h : Int)), some (.ref lo), some (.ref dm), some (.int (t : Int)), some v5, some (.int (a : Int)), none] H9 := fun hab H9 e9 D hD => by
      refine s_insert rfl rfl rfl (e9 _ _ hlo8) (by rw [nV_len]; omega) (by omega) (hD _ _ ?_)
      have e89 := hE8.trans e9
      refine ⟨putK kvs (.inl (t : Int)) v6, _, _, _, rfl, Ex.mut (hE7.trans e89) hlo', by rw [upd_ne lopc.symm]; exact e89 _ _ hpc7, ?_, by rw [upd_ne lodm.symm]; exact e89 _ _ hdm7, ?_, fun t' ht' => ?_⟩
      · rw [upd_same, order_snoc _ hti, hO, insT_at _ _ O a hal hbelow hab, nV_take, nV_drop]
        show some (HO.lst (nV (O.take a) ++ nV [t] ++ nV (O.drop a))) = _
        unfold nV
        rw [List.map_append, List.map_append]
      · have := length_putK kvs (Sum.inl (t : Int)) v6
        omega
      · obtain ⟨v, q1, q2⟩ := hm7 t' ht'
        exact ⟨v, q1, (q2.mono e89).upd (e89 _ _ hlo7) (n := 1) rfl⟩
    by_cases hlt : a < O.length
    · obtain ⟨x, hx⟩ : ∃ x, O[a]? = some x := ⟨_, List.getElem?_eq_getElem hlt⟩
      obtain ⟨vx, vx1, vx2⟩ := hm7 x (omem a x hx)
      obtain ⟨vt', vt1, vt2⟩ := hm7 t tmem
      refine ⟨true && !decide (mkF Ts ts s e t < mkF Ts ts s e x), et_and (a := true) (et_test (ev_is (ev_op (ev_var rfl) (ev_len (ev_var rfl) (SqL.of hlo8)) rv_I0) ?_)) fun _ => et_not (et_B (ev_bl (ed_call (ds := [frD (mkF Ts ts s e t), frD (mkF Ts ts s e x)])
        (ead_cons (ed_dget (ev_var rfl) (ev_var rfl) hdm8 vt1 (vt2.mono hE8)) (ead_cons (ed_dget (ev_var rfl) (ev_op (ev_var rfl) (ev_var rfl) (rv_ixL (SqL.of hlo8) (atI_nat (nV_get hx)))) hdm8 vx1 (vx2.mono hE8)) ead_nil)) (R_lt (bdm t tmem) (bdm x (omem a x hx)))))), fun hb H9 e9 => ?_, fun hb H9 e9 => ?_⟩
      · rw [nV_len, decide_eq_true (show (a : Int) < (O.length : Int) by omega)]
      · have hn : ¬ mkF Ts ts s e t < mkF Ts ts s e x := fun z => by
          rw [decide_eq_true z] at hb
          cases hb
        refine ⟨_, fun _ _ z => z, s_aug (a := (a : Int)) (b := 1) rfl ev_c fun H10 e10 => ?_⟩
        refine ⟨O.length - (a + 1), by omega, a + 1, rfl, by omega, fun j z hz lt => ?_, rfl, (hE8.trans e9).trans e10⟩
        by_cases ej : j = a
        · rw [ej, hx] at hz
          cases hz
          exact hn
        · exact hbelow j z hz (by omega)
      · refine fin (fun z hz => ?_) H9 e9 _ fun _ _ z => z
        rw [hx] at hz
        cases hz
        refine Decidable.byContradiction fun q => ?_
        rw [decide_eq_false q] at hb
        cases hb
    · refine ⟨false, et_is (et_and (a := false) (b := false) (et_test (ev_is (ev_op (ev_var rfl) (ev_len (ev_var rfl) (SqL.of hlo8)) rv_I0) ?_)) fun z => by cases z) rfl, fun hb => (by cases hb), fun hb H9 e9 => fin (fun z hz => ?_) H9 e9 _ fun _ _ z => z⟩
      · rw [nV_len, decide_eq_false (show ¬ (a : Int) < (O.length : Int) by omega)]
      · exact absurd (List.getElem?_eq_some_iff.mp hz).1 hlt
  · obtain ⟨kvs, x9, x10, x11, rfl, hE, hpc', hlo2, hdm2, hkl, hmarks⟩ := p
    rw [nV_len, List.take_length] at hlo2 hmarks
    have op : (orderT (mkF Ts ts s e) ts).Perm ts := order_perm _ _
    have olen : (orderT (mkF Ts ts s e) ts).length = ts.length := op.length_eq
    obtain ⟨t0, ht0⟩ : ∃ t0, (orderT (mkF Ts ts s e) ts)[h - 1]? = some t0 := ⟨_, List.getElem?_eq_getElem (by omega)⟩
    have ht0' := ht0
    rw [← hh] at ht0'
    obtain ⟨D1, pre1, pre2⟩ := pre.step hm2 ht0'
    have hpf := partF_two Ts n s e hm2 ht0'
    have okp := pre.ok
    rw [hpf] at okp hQ
    rw [hh] at pre1 pre2 hQ okp
    generalize hO : orderT (mkF Ts ts s e) ts = O at *
    have t0m := List.mem_of_getElem? ht0
    obtain ⟨vm, vm1, vm2⟩ := hmarks t0 (op.mem_iff.mp t0m)
    have ond : O.Nodup := op.nodup_iff.mpr (nodup_of_up hup)
    -- the point
    refine q_asgD (d := frD (mkF Ts ts s e t0)) (ed_dget (ev_var rfl) (ev_op (ev_var rfl) (ev_op (ev_var rfl) ev_c rv_I0) (rv_ixL (SqL.of hlo2) (at_of (j := h - 1) (by omega) (nV_get ht0)))) hdm2 vm1 vm2) fun vp H6 e6 kp => ?_
    have hE6 := hE.trans e6
    have hlo6 := e6 _ _ hlo2
    have el1 : ∀ (σ : L2.St) (H' : Hp), H' lo = some (.lst (nV O)) → σ[7]? = some (some (.ref lo)) → σ[6]? = some (some (.int (h : Int))) → EvL (tCB (rSorted K) (tCons (tSl (rSlL K) (tVar 7) tNoPart (tPart (tVar 6))) tNil)) σ H' (nV (sub ts (O.take h))) := fun σ H' hl s7 s6 => by
      refine el_sorted hup (ond.sublist (List.take_sublist h O)) (fun x hx => op.mem_iff.mp (List.mem_of_mem_take hx)) (by rw [List.length_take]; omega) ?_
      have q := el_sl (te := tVar 7) (tl := tNoPart) (th := tPart (tVar 6)) (ev_var s7) eo_none (eo_some (ev_var s6)) (SqL.of (K := K) hl)
      rw [cut_take, nV_take] at q
      exact q
    have el2 : ∀ (σ : L2.St) (H' : Hp), H' lo = some (.lst (nV O)) → σ[7]? = some (some (.ref lo)) → σ[6]? = some (some (.int (h : Int))) → EvL (tCB (rSorted K) (tCons (tSl (rSlL K) (tVar 7) (tPart (tVar 6)) tNoPart) tNil)) σ H' (nV (sub ts (O.drop h))) := fun σ H' hl s7 s6 => by
      refine el_sorted hup (ond.sublist (List.drop_sublist h O)) (fun x hx => op.mem_iff.mp (List.mem_of_mem_drop hx)) (by rw [List.length_drop]; omega) ?_
      have q := el_sl (te := tVar 7) (tl := tPart (tVar 6)) (th := tNoPart) (ev_var s7) (eo_some (ev_var s6)) eo_none (SqL.of (K := K) hl)
      rw [cut_drop, nV_drop] at q
      exact q
    -- the first half
    refine ⟨_, rfl, hs, dx, [], rfl, hE6 _ _ hstart, rfl, args5 rfl (el1 _ _ hlo6 rfl rfl) rfl rfl rfl fun s1 H7 hs1 e7 hl7 => ?_⟩
    have hE7 := hE6.trans e7
    have hpc6 := e6 _ _ hpc'
    have hpc7 := e7 _ _ hpc6
    have hs1pc : s1 ≠ pc := fun q => by
      rw [q, hpc6] at hs1
      cases hs1
    have hEh7 : Ex (hid pc H) (hid pc H7) := ex_hid_hid hE7
    have kp7 : Dp K (hid pc H7) vp (frD (mkF Ts ts s e t0)) := (kp.mono e7).hid hpc7 (n := 1) rfl
    refine ⟨hs, dx, .ref ta, s1, vs, vp, pc, xs, Ts, sub ts (O.take h), s, mkF Ts ts s e t0, D1, rfl, hE7 _ _ hstart, hpc7, hlen, hT.mono hEh7, SqL.of (by rw [hid_ne hs1pc]; exact hl7), hvs.mono hEh7, kp7, pre1, fun H8 xs1 ex8 hpc8 pl1 => ?_⟩
    have hEh8 := hEh7.trans ex8
    have hE8 : Ex (hid pc H) H8 := hEh8.trans hid_ex
    have hlo8 : H8 lo = some (.lst (nV O)) := hid_ex _ _ (ex8 _ _ (by rw [hid_ne lopc]; exact e7 _ _ hlo6))
    -- the others
    refine ⟨_, rfl, hs, dx, [], rfl, hE8 _ _ hstart, rfl, args5 rfl (el2 _ _ hlo8 rfl rfl) rfl rfl rfl fun s2 H9 hs2 e9 hl9 => ?_⟩
    have hpc9 := e9 _ _ hpc8
    have hs2pc : s2 ≠ pc := fun q => by
      rw [q, hpc8] at hs2
      cases hs2
    have e89 : Ex (hid pc H8) (hid pc H9) := hid_mono e9
    have hEh9 := hEh8.trans e89
    refine ⟨hs, dx, .ref ta, s2, vp, ve, pc, xs1, Ts, sub ts (O.drop h), mkF Ts ts s e t0, e, D1, rfl, (hEh9.trans hid_ex) _ _ hstart, hpc9, pl1.1.trans hlen, hT.mono hEh9, SqL.of (by rw [hid_ne hs2pc]; exact hl9), kp7.mono (ex8.trans e89), hve.mono hEh9, pre2, fun H10 xs2 ex10 hpc10 pl2 => ?_⟩
    refine hQ H10 xs2 (hEh9.trans ex10) hpc10 ((pl1.back hEh7).trans pl2 hEh9 (e89.trans ex10) fun x hx y hy z => ?_)
    have nd := okp.perm.nodup_iff.mpr (nodup_of_up hup)
    rw [List.map_append] at nd
    exact (List.nodup_append.mp nd).2.2 x.1 (List.mem_map.mpr ⟨x, hx, rfl⟩) y.1 (List.mem_map.mpr ⟨y, hy, rfl⟩) z.symm
end
end Fk
end
section
set_option Elab.async false
set_option linter.all false
set_option maxRecDepth 100000
set_option maxHeartbeats 4000000
namespace Fk
open PySem PySem.Spec PyProof.Rows L2 Evl
section
variable {P : Program} {w : World} {K : PySem.W.Frag} {mg : Str → Option Value} {base : Heap} {C CH : Addr} {H H' H0 : Hp} {σ : L2.St} {v : V} {d : PyData} {te td ty to ti tl : TE} {D : Ends} {tz : TS}
theorem part_all (M : MAt K CH "part" "Halves.part" sPart pPart) (E : PartEnv P w K mg base C CH) : ∀ n, HasM P w K mg base CH "part" (5 + n) pPart (spPart K C CH n)
  | 0 => M.has fun f fd F => part_zero F E
  | n + 1 => M.has fun f fd F => part_succ F E (part_all M E n)
/-- [[] for x in l] -/
theorem lc_empty {a : Addr} {xs : List V} {j : Nat} {vs : List Nat} {Q : VK} (h : Ev tl σ H (.ref a)) (hx : SqL K H a xs) (hz : xs.length ≤ 40000) (hw : ∀ x, wipe ((wipe σ vs).set j (some x)) vs = wipe σ vs) (he : ∀ x H1, Ex H H1 → EvL te ((wipe σ vs).set j (some x)) H1 [])
    (k : ∀ p ys H1, H p = none → Ex H H1 → H1 p = some (.lst ys) → ys.length = xs.length → Q (.ref p) H1) : tLc (iList K tl) (gName j) tYes te vs σ H Q := h H (Ex.refl H) _ fun H1 e1 => ⟨a, rfl, ⟨xs, ex_l e1 hx⟩, fun Dl hD =>
  lc_list (xs := xs) (fun i H' => Ex H1 H' ∧ ∃ acc, H' Dl = some (.lst acc) ∧ acc.length = i) ⟨Ex.new hD, [], upd_same, rfl⟩ (fun i H' _ c => ex_l (e1.trans c.1) hx) (fun i x H' hi c => ⟨hw x, by
    obtain ⟨c1, acc, c2, c3⟩ := c
    have hi2 := (List.getElem?_eq_some_iff.mp hi).1
    refine et_yes (σ := (wipe σ vs).set j (some x)) H' (Ex.refl H') _ fun H3 e3 => ?_
    refine he x H' (e1.trans c1) H3 e3 _ fun q H4 hq e4 h4 => ⟨acc, (e3.trans e4) _ _ c2, sz_lt (by omega), Ex.mut ((c1.trans e3).trans e4) hD, acc ++ [.ref q], upd_same, by rw [List.length_append, c3]; rfl⟩⟩)
    fun H' c => by
      obtain ⟨c1, acc, c2, c3⟩ := c
      exact k Dl acc H' (fresh_back e1 hD) (e1.trans c1) c2 c3⟩
theorem q_lcEmpty {a : Addr} {xs : List V} {i j : Nat} {vs : List Nat} (h : Ev tl σ H (.ref a)) (hx : SqL K H a xs) (hz : xs.length ≤ 40000) (hw : ∀ x, wipe ((wipe σ vs).set j (some x)) vs = wipe σ vs) (he : ∀ x H1, Ex H H1 → EvL te ((wipe σ vs).set j (some x)) H1 [])
    (k : ∀ p ys H1, H p = none → Ex H H1 → H1 p = some (.lst ys) → ys.length = xs.length → tz D (σ.set i (some (.ref p))) H1) : tSeq (tAsg (tLc (iList K tl) (gName j) tYes te vs) (gName i)) tz D σ H := by
  show tLc (iList K tl) (gName j) tYes te vs σ H (fun x H1 => gName i x σ H1 (tz D))
  exact lc_empty h hx hz hw he k
theorem q_drop' (h : ∀ Q : VK, (∀ H', Ex H H' → Q .non H') → te σ H Q) (k : ∀ H1, Ex H H1 → tz D σ H1) : tSeq (tDrop te) tz D σ H := h _ fun H' e => k H' e
/-- [k for k in range(n)] -/
theorem el_range {ta : TA} {j : Nat} {vs : List Nat} {n : Nat} (h : EvA ta σ H [.int (n : Int)]) (hn : n ≤ 40000) (hw : ∀ x, wipe ((wipe σ vs).set j (some x)) vs = wipe σ vs) (hj : j < σ.length) : EvL (tLc (iRng1 ta) (gName j) tYes (tVar j) vs) σ H (nV (List.range n)) := by
  have q := el_lcR1 (te := tVar j) (t := tYes) (fun _ => true) (fun i => V.int (i : Int)) h ⟨by omega, by omega⟩ hw (fun _ _ _ _ => et_yes) (fun i H1 _ _ _ => ev_var (by rw [List.getElem?_set_self (by rw [wipe_length]; exact hj)]))
  have e : given (Int.toNat (n : Int)) (fun _ => true) (fun i => V.int (i : Int)) = nV (List.range n) := by
    unfold given nV
    rw [Int.toNat_natCast, List.filter_eq_self.mpr (fun _ _ => rfl)]
  rw [e] at q
  exact q
def dealF (Ts : List Steps) : List Leaf := partF Ts 3 (List.range Ts.length) 0 1
def spDeal (K : PySem.W.Frag) (C CH : Addr) : Sp := fun args H Q _ => ∃ hs dx vt Ts, args = [.ref hs, vt] ∧ H hs = some (.ins CH dx []) ∧ TastesAt K C H vt Ts ∧ (∀ T ∈ Ts, Good T) ∧ 1 ≤ Ts.length ∧ Ts.length ≤ 8 ∧
  ∀ pc vs H', H pc = none → Ex H H' → H' pc = some (.lst vs) → vs.length = Ts.length → (∀ x ∈ dealF Ts, ∃ v, vs[x.1]? = some v ∧ v ≠ .ref pc ∧ Slot K H H' v x.2) → Q (.ref pc) H'
theorem pre_deal {Ts : List Steps} (hT : ∀ T ∈ Ts, Good T) (h1 : 1 ≤ Ts.length) (h8 : Ts.length ≤ 8) : PartPre Ts 3 (List.range Ts.length) 0 1 1 := by
  refine ⟨hT, List.pairwise_lt_range, fun t ht => List.mem_range.mp ht, by rw [List.length_range]; exact h1, by rw [List.length_range]; exact h8, by rw [List.length_range]; exact h8, by decide, ?_, on0 1, on1 1, by grind⟩
  rw [Nat.one_mul]
  exact Nat.pow_le_pow_right (by decide) (by decide)
theorem args5b {i1 i5 : Nat} {t2 : TE} {v1 v3 v4 v5 : V} {ys : List V} {Q : List V → Hp → Prop} (h1 : σ[i1]? = some (some v1)) (h2 : EvL t2 σ H ys) (h5 : σ[i5]? = some (some v5))
    (k : ∀ p H1, H p = none → Ex H H1 → H1 p = some (.lst ys) → Q [v1, .ref p, v3, v4, v5] H1) : tCons (tVar i1) (tCons t2 (tCons (tC v3) (tCons (tC v4) (tCons (tVar i5) tNil)))) σ H Q :=
  ⟨_, h1, h2 H (Ex.refl H) _ fun p H1 hp e1 hl => ⟨_, h5, k p H1 hp e1 hl⟩⟩
theorem ok_deal {f : Addr} {fd : FuncData} (F : Fun K "deal" "Halves.deal" sDeal f fd) (hc : Cls K CH) (gN : GlobF K mg "NOUGHT" 0) (gO : GlobF K mg "ONE" 1) (Lc : Has P w K mg base "check_takers" 1 ["tastes", "least", "most"] (spTakers K C)) (Mp : HasM P w K mg base CH "part" 8 pPart (spPart K C CH 3)) (ml : mg "len" = none) (mr : mg "range" = none) :
    FnOk P w K mg base CX0 9 f fd ["self", "tastes"] (spDeal K C CH) := by
  obtain ⟨aN, mN, dN⟩ := gN
  obtain ⟨aO, mO, dO⟩ := gO
  refine F.ok sc_deal (fun vs H Q E h => by obtain ⟨hs, dx, vt, Ts, rfl, _⟩ := h; rfl) fun cdv A outer s0 H vs Q E hr h => ?_
  obtain ⟨hs, dx, vt, Ts, rfl, h1, hT, good, l1, l8, hQ⟩ := h
  refine ⟨_, pss_cons (ps_expr (pe_callH (Lc.mono (k := 8) (by decide)) hr (pa_cons (pv 1) (pa_cons pe_int (pa_cons pe_int pa_nil)))))
    (pss_cons (ps_setLc (i := 2) (own := [("taste", 3)]) (g := gName 3) (tt := tYes) (by rfl) sc_deal.nd rfl rfl (sw_true rfl rfl rfl (by decide +kernel)) (pi_list (pv 1)) (blkOk_by (own := [("taste", 3)]) (N := ["self", "tastes", "pieces", "taste", "k"]) (sc := defScope sDeal) (by decide +kernel))
      (fun _ _ _ _ _ => pg_name (i := 3) sc_deal.nd rfl (Or.inl rfl)) (fun _ _ _ _ _ => pts_nil) (fun _ _ _ _ _ => pe_lst pa_nil))
    (pss_cons (ps_expr (pe_methH (pv 0) hc Mp hr (pa_cons (pv 1) (pa_cons (pe_lc (own := [("k", 4)]) (g := gName 4) (tt := tYes) (by rfl) sc_deal.nd (pi_range1 (by rfl) mr (pa1 (pe_callB call_len_seq (by rfl) ml PySem.boot_len (pa1 (pv 1))))) (blkOk_by (own := [("k", 4)]) (N := ["self", "tastes", "pieces", "taste", "k"]) (sc := defScope sDeal) (by decide +kernel))
      (fun _ _ _ _ _ => pg_name (i := 4) sc_deal.nd rfl (Or.inl rfl)) (fun _ _ _ _ _ => pts_nil) (fun _ _ _ _ _ => pv 4)) (pa_cons (pe_gl mN) (pa_cons (pe_gl mO) (pa_cons (pv 2) pa_nil)))))))
    (pss_one (ps_ret (pv 2))))), ?_⟩
  obtain ⟨ta, tvs, rfl, t1, t2, t3⟩ := id hT
  refine q_drop' (fun Q hQ' => ⟨_, rfl, ⟨.ref ta, 1, 8, Ts, rfl, hT, by omega, by omega, by omega, hQ'⟩⟩) fun H1 e1 => ?_
  refine q_lcEmpty (K := K) (a := ta) (xs := tvs) (ev_var rfl) (ex_l e1 t1) (by omega) (fun _ => by rfl) (fun x H2 e2 => el_lst ea_nil (Nat.zero_le _)) fun pc xs H2 hpc0 e2 hpc hlen => ?_
  have e12 := e1.trans e2
  refine ⟨_, rfl, hs, dx, [], rfl, e12 _ _ h1, rfl, args5b rfl (el_range (n := Ts.length) (ea_cons (ev_is (ev_len (ev_var rfl) (ex_l e12 t1)) (by rw [t2])) ea_nil) (by omega) (fun _ => by rfl) (by show 4 < 5; decide)) rfl fun kp H3 hk0 e3 hk => ?_⟩
  have hpc3 := e3 _ _ hpc
  have hpcH : H pc = none := fresh_back e1 hpc0
  have kpc : kp ≠ pc := fun q => by
    rw [q, hpc] at hk0
    cases hk0
  have e13 := e12.trans e3
  have eh : Ex H (hid pc H3) := fun b o hb => by
    rw [hid_ne (ne_of_none hb hpcH)]
    exact e13 _ _ hb
  refine ⟨hs, dx, .ref ta, kp, .ref aN, .ref aO, pc, xs, Ts, List.range Ts.length, 0, 1, 1, rfl, e13 _ _ h1, hpc3, hlen.trans t2, hT.mono eh, SqL.of (by rw [hid_ne kpc]; exact hk), dN _, dO _, pre_deal good l1 l8, fun H4 xs' ex4 hpc4 pl => ?_⟩
  refine ⟨_, rfl, ?_⟩
  refine hQ pc xs' H4 hpcH ((eh.trans ex4).trans hid_ex) hpc4 (pl.1.trans (hlen.trans t2)) fun x hx => ?_
  obtain ⟨v, v1, q, y, rfl, q1, q2, q3⟩ := pl.2.2 x hx
  have qpc : q ≠ pc := fun z => by
    rw [z, hid_at] at q2
    cases q2
  refine ⟨_, v1, fun z => qpc (by injection z), q, y, rfl, fresh_back eh q1, hid_ex _ _ q2, q3.mono hid_ex⟩
end
end Fk
end
section
set_option Elab.async false
set_option linter.all false
set_option maxRecDepth 100000
set_option maxHeartbeats 1000000
namespace Fk
open PySem PySem.Spec PyProof.Rows L2 Evl
local macro_rules | `(tactic| walk_at "ev") => `(tactic| repeat' first
  | exact ev_c
  | exact ev_var rfl
  | refine ev_op ?_ ?_ rv_I0
  | refine ev_op ?_ ?_ (rv_I ?_))
local macro_rules | `(tactic| walk_at "ar") => `(tactic| repeat' first
  | exact ev_pr0 (ed_var rfl (by assumption))
  | exact ev_pr1 (ed_var rfl (by assumption))
  | exact ev_c
  | exact ev_var rfl
  | refine ev_op ?_ ?_ rv_I0
  | refine ev_op ?_ ?_ (rv_I ?_)
  | exact cm (by assumption) (by assumption))
section
variable {P : Program} {w : World} {K : PySem.W.Frag} {mg : Str → Option Value} {base : Heap}
abbrev lCell : Stmt := top 33
abbrev lMixed : Stmt := top 34
abbrev lLow : Stmt := top 35
abbrev lLess : Stmt := top 36
abbrev lSum : Stmt := top 37
abbrev lLeft : Stmt := top 38
theorem lc_cell : FnScope ["_law_script", "_law_k"] ["_law_script", "_law_k"] (defScope lCell) := ⟨rfl, rfl, rfl, by decide +kernel, rfl, by decide +kernel, by decide +kernel⟩
theorem lc_mixed : FnScope ["_law_cell", "_law_k", "_law_found"] ["_law_cell", "_law_k"] (defScope lMixed) := ⟨rfl, rfl, rfl, by decide +kernel, rfl, by decide +kernel, by decide +kernel⟩
theorem lc_low : FnScope ["_law_a", "_law_b", "_law_one", "_law_other"] ["_law_a", "_law_b"] (defScope lLow) := ⟨rfl, rfl, rfl, by decide +kernel, rfl, by decide +kernel, by decide +kernel⟩
theorem lc_less : FnScope ["_law_one", "_law_other"] ["_law_one", "_law_other"] (defScope lLess) := ⟨rfl, rfl, rfl, by decide +kernel, rfl, by decide +kernel, by decide +kernel⟩
theorem lc_sum : FnScope ["_law_one", "_law_other"] ["_law_one", "_law_other"] (defScope lSum) := ⟨rfl, rfl, rfl, by decide +kernel, rfl, by decide +kernel, by decide +kernel⟩
theorem lc_left : FnScope ["_law_one", "_law_other"] ["_law_one", "_law_other"] (defScope lLeft) := ⟨rfl, rfl, rfl, by decide +kernel, rfl, by decide +kernel, by decide +kernel⟩
theorem at_ofG {α : Type} {xs : List α} {z : Int} {j : Nat} {v : α} (e : z = (j : Int)) (h : xs[j]? = some v) : atI xs z = some v := by
  rw [e]
  exact atI_nat h
def cellAt (ns : List Int) (k : Int) : Int := if k < (ns.length : Int) then ns.getD k.toNat 0 else 0
def R_cell : List PyData → PyData → Prop := fun ds d => ∃ ns k, ds = [.list (ns.map PyData.int), .int k] ∧ 0 ≤ k ∧ d = .int (cellAt ns k)
theorem ok_cell {f : Addr} {fd : FuncData} (F : Fun K "_law_cell_at" "_law_cell_at" lCell f fd) (ml : mg "len" = none) : FnOk P w K mg base CX0 1 f fd ["_law_script", "_law_k"] (spP K R_cell) := by
  refine okP F lc_cell (fun ds d h => by obtain ⟨a, b, rfl, _⟩ := h; rfl) fun cdv A outer s H vs Q E ds d hr hv hR hQ => ?_
  obtain ⟨ns, k, rfl, h0, rfl⟩ := hR
  obtain ⟨v, x, rfl, hv1, hx⟩ := dps2 hv
  obtain rfl := hx.int_inv
  refine ⟨_, pss_cons (ps_if (pt_cmpR op_lt (pv 1) (pe_callB call_len_seq (by rfl) ml PySem.boot_len (pa1 (pv 0))) (nomark _)) (pss_one (ps_ret (ixlk K (pv 0) (pv 1)))) pss_nil) (pss_one (ps_ret pe_int)), ?_⟩
  refine q_when (b := decide (k < ((ns.map PyData.int).length : Int))) (et_test (ev_op (ev_var rfl) (ev_lenL (ed_var rfl hv1)) rv_I0)) (fun hb H1 e1 => ?_) fun hb H1 e1 => ?_
  · have hk : k < ((ns.map PyData.int).length : Int) := of_decide_eq_true hb
    rw [List.length_map] at hk
    have hat : atI (ns.map PyData.int) k = some (.int (cellAt ns k)) := by
      refine at_ofG (z := k) (j := k.toNat) (show k = ((k.toNat : Nat) : Int) by omega) ?_
      rw [List.getElem?_map, List.getElem?_eq_getElem (by omega)]
      unfold cellAt
      rw [if_pos hk]
      have : k.toNat < ns.length := by omega
      simp [List.getD, this]
    refine s_retD (d := .int (cellAt ns k)) (ed_ixL (i := k) (ed_var rfl (hv1.mono e1)) (ev_var rfl) hat) fun v H2 e2 k2 => hQ v H2 (e1.trans e2) k2
  · have hk : ¬ k < ((ns.map PyData.int).length : Int) := of_decide_eq_false hb
    rw [List.length_map] at hk
    have e : cellAt ns k = 0 := by
      unfold cellAt
      rw [if_neg hk]
    refine s_ret (v := .int 0) ev_c fun H2 e2 => hQ _ H2 (e1.trans e2) (by rw [e]; exact .int 0)
def mixF (c k : Int) : Int := ((c + 977 * k + 31) * 48271 % 2147483647) * ((c + 977 * k + 31) * 48271 % 2147483647) % 2147483629
def R_mix : List PyData → PyData → Prop := fun ds d => ∃ c k, ds = [.int c, .int k] ∧ d = .int (mixF c k)
theorem ok_mixed {f : Addr} {fd : FuncData} (F : Fun K "_law_mixed" "_law_mixed" lMixed f fd) : FnOk P w K mg base CX0 1 f fd ["_law_cell", "_law_k"] (spP K R_mix) := by
  refine okP F lc_mixed (fun ds d h => by obtain ⟨a, b, rfl, _⟩ := h; rfl) fun cdv A outer s H vs Q E ds d hr hv hR hQ => ?_
  obtain ⟨c, k, rfl, rfl⟩ := hR
  obtain rfl := dps_ints (ns := [c, k]) hv
  refine ⟨_, pss_cons (ps_set (i := 2) lc_mixed.nd rfl (.inl rfl) (pe_op op_mod (pe_op op_mul (pe_op op_add (pe_op op_add (pv 0) (pe_op op_mul pe_int (pv 1))) pe_int) pe_int) pe_int)) (pss_one (ps_ret (pe_op op_mod (pe_op op_mul (pv 2) (pv 2)) pe_int))), ?_⟩
  refine q_asg (v := .int ((c + 977 * k + 31) * 48271 % 2147483647)) (ev_op (ev_op (ev_op (ev_op (ev_var rfl) (ev_op ev_c (ev_var rfl) (rv_I (.inl ⟨by decide, by decide⟩))) rv_I0) ev_c rv_I0) ev_c (rv_I (.inr ⟨by decide, by decide⟩))) ev_c (rv_I (by decide))) fun H1 e1 => ?_
  have h0 := Int.emod_nonneg ((c + 977 * k + 31) * 48271) (show (2147483647 : Int) ≠ 0 by decide)
  have h1 := Int.emod_lt_of_pos ((c + 977 * k + 31) * 48271) (show (0 : Int) < 2147483647 by decide)
  refine s_ret (v := .int (mixF c k)) (ev_op (ev_op (ev_var rfl) (ev_var rfl) (rv_I (.inl ⟨by omega, by omega⟩))) ev_c (rv_I (by decide))) fun H2 e2 => hQ _ H2 (e1.trans e2) (.int _)
theorem mixF_nn (c k : Int) : 0 ≤ mixF c k := Int.emod_nonneg _ (by decide)
theorem ok_low {f : Addr} {fd : FuncData} (F : Fun K "_law_low" "_law_low" lLow f fd) : FnOk P w K mg base CX0 1 f fd ["_law_a", "_law_b"] (spP K R_low) := by
  refine okP F lc_low (fun ds d h => by obtain ⟨a, b, rfl, _⟩ := h; rfl) fun cdv A outer s H vs Q E ds d hr hv hR hQ => ?_
  obtain ⟨a, b, rfl, h0, h1, h2, rfl⟩ := hR
  obtain rfl := dps_ints (ns := [a, b]) hv
  refine ⟨_, pss_cons (ps_set (i := 2) lc_low.nd rfl (.inl rfl) (pv 0)) (pss_cons (ps_set (i := 3) lc_low.nd rfl (.inl rfl) (pv 1))
    (pss_cons (ps_while PassesOwn.never (pt_cmpR op_gt (pv 3) pe_int (nomark _)) (pss_one (ps_par (i := 2) (j := 3) (by rfl) lc_low.nd rfl rfl (by decide) rfl rfl (pa2 (pv 3) (pe_op op_modN (pv 2) (pv 3))) (by rfl))))
    (pss_one (ps_ret (pe_tup (pa2 (pe_op op_fdivW (pv 0) (pv 2)) (pe_op op_fdivW (pv 1) (pv 2)))))))), ?_⟩
  refine q_asg (v := .int a) (ev_var rfl) fun H1 e1 => ?_
  refine q_asg (v := .int b) (ev_var rfl) fun H2 e2 => ?_
  refine q_while (fun m σ H' => ∃ x y : Int, σ = [some (.int a), some (.int b), some (.int x), some (.int y)] ∧ 0 ≤ x ∧ 0 ≤ y ∧ 0 < x + y ∧ Int.gcd x y = Int.gcd a b ∧ m = y.toNat ∧ Ex H H') b.toNat ⟨a, b, rfl, h0, by omega, by omega, rfl, rfl, e1.trans e2⟩ ?_
  rintro m σ H' ⟨x, y, rfl, hx, hy, hxy, hg, rfl, hE⟩
  refine ⟨decide (0 < y), et_test (by walk_at "ev"), fun hb H3 e3 => ?_, fun hb H3 e3 => ?_⟩
  · have hy0 : 0 < y := of_decide_eq_true hb
    refine ⟨_, fun _ _ h => h, s_par (ea_cons (ev_var rfl) (ea_cons (ev_op (ev_var rfl) (ev_var rfl) (rv_I (by omega))) ea_nil)) fun H4 e4 => ?_⟩
    have em : x.fmod y = x % y := Int.fmod_eq_emod_of_nonneg x (by omega)
    have m0 := Int.emod_nonneg x (show y ≠ 0 by omega)
    have m1 := Int.emod_lt_of_pos x hy0
    have hg2 := gcd_step x y hx hy0
    rw [em] at hg2 ⊢
    exact ⟨(x % y).toNat, by omega, y, x % y, rfl, hy, m0, by omega, hg2.trans hg, rfl, (hE.trans e3).trans e4⟩
  · have hy0 : y = 0 := by
      have := of_decide_eq_false hb
      omega
    subst hy0
    have hx0 : x = (Int.gcd a b : Int) := by
      rw [← hg, Int.gcd_zero_right]
      omega
    have hd : CDivW a x ∧ CDivW b x := by
      have q : x ≤ b := by
        rw [hx0]
        exact Int.le_of_dvd h1 (Int.gcd_dvd_right ..)
      have q2 : Sm 8000 x := h2.le hx q
      exact ⟨wide_div (by omega) q2 (by decide) (by decide), wide_div (by omega) q2 (by decide) (by decide)⟩
    refine s_retD (d := frD (Rat.divInt a b)) (ed_tup (ead_cons (ed_int ?_) (ead_cons (ed_int ?_) ead_nil)) (by show 2 ≤ 100000; decide)) fun v H4 e4 hv => hQ v H4 ((hE.trans e3).trans e4) hv
    · rw [divInt_num h1, ← hx0]
      exact ev_op (ev_var rfl) (ev_var rfl) (rv_I hd.1)
    · rw [divInt_den h1, ← hx0]
      exact ev_op (ev_var rfl) (ev_var rfl) (rv_I hd.2)
theorem ok_less {f : Addr} {fd : FuncData} (F : Fun K "_law_less" "_law_less" lLess f fd) : FnOk P w K mg base CX0 1 f fd ["_law_one", "_law_other"] (spP K R_below) := by
  refine okP F lc_less (fun ds d h => by obtain ⟨a, b, c, e, rfl, _⟩ := h; rfl) fun cdv A outer s H vs Q E ds d hr hv hR hQ => ?_
  obtain ⟨a, b, c, e, rfl, s1, s2, s3, s4, rfl⟩ := hR
  obtain ⟨v, x, rfl, hv, hx⟩ := dps2 hv
  refine ⟨_, pss_one (ps_ret (pe_cmpR op_lt (pe_op op_mulW (ix (pv 0) pe_int) (ix (pv 1) pe_int)) (pe_op op_mulW (ix (pv 1) pe_int) (ix (pv 0) pe_int)) (nomark _))), ?_⟩
  refine s_ret (v := .bl (decide (a * e < c * b))) ?_ fun H4 e4 => hQ _ H4 e4 (.bl _)
  walk_at "ar"
theorem ok_sum {f : Addr} {fd : FuncData} (F : Fun K "_law_sum" "_law_sum" lSum f fd) (L : Has P w K mg base "_law_low" 1 ["_law_a", "_law_b"] (spP K R_low)) : FnOk P w K mg base CX0 2 f fd ["_law_one", "_law_other"] (spP K (R_op gPlus hPlus)) := by
  refine okP F lc_sum (fun ds d h => h.len) fun cdv A outer s H vs Q E ds d hr hv hR hQ => ?_
  obtain ⟨a, b, c, e, rfl, s1, s2, s3, s4, h0, h1, rfl⟩ := hR
  obtain ⟨v, x, rfl, hv, hx⟩ := dps2 hv
  refine ⟨_, pss_one (ps_ret (pe_callH L hr (pa2 (pe_op op_add (pe_op op_mulW (ix (pv 0) pe_int) (ix (pv 1) pe_int)) (pe_op op_mulW (ix (pv 1) pe_int) (ix (pv 0) pe_int))) (pe_op op_mulW (ix (pv 0) pe_int) (ix (pv 1) pe_int))))), ?_⟩
  refine s_retD (ed_call (ds := [.int (gPlus a b c e), .int (hPlus a b c e)]) (ead_cons (ed_int ?_) (ead_cons (ed_int ?_) ead_nil)) ⟨_, _, rfl, h0, h1, (s2.mul s4).mono (by decide), rfl⟩) fun v H4 e4 hv => hQ v H4 e4 hv
  all_goals walk_at "ar"
theorem ok_left {f : Addr} {fd : FuncData} (F : Fun K "_law_left" "_law_left" lLeft f fd) (L : Has P w K mg base "_law_low" 1 ["_law_a", "_law_b"] (spP K R_low)) : FnOk P w K mg base CX0 2 f fd ["_law_one", "_law_other"] (spP K (R_op gMinus hPlus)) := by
  refine okP F lc_left (fun ds d h => h.len) fun cdv A outer s H vs Q E ds d hr hv hR hQ => ?_
  obtain ⟨a, b, c, e, rfl, s1, s2, s3, s4, h0, h1, rfl⟩ := hR
  obtain ⟨v, x, rfl, hv, hx⟩ := dps2 hv
  refine ⟨_, pss_one (ps_ret (pe_callH L hr (pa2 (pe_op op_sub (pe_op op_mulW (ix (pv 0) pe_int) (ix (pv 1) pe_int)) (pe_op op_mulW (ix (pv 1) pe_int) (ix (pv 0) pe_int))) (pe_op op_mulW (ix (pv 0) pe_int) (ix (pv 1) pe_int))))), ?_⟩
  refine s_retD (ed_call (ds := [.int (gMinus a b c e), .int (hPlus a b c e)]) (ead_cons (ed_int ?_) (ead_cons (ed_int ?_) ead_nil)) ⟨_, _, rfl, h0, h1, (s2.mul s4).mono (by decide), rfl⟩) fun v H4 e4 hv => hQ v H4 e4 hv
  all_goals walk_at "ar"
end
end Fk
end
section
set_option linter.all false
/-! The law's steps are a taste. -/
namespace Fk
theorem sort_ex (ns : List Int) : ∃ s : List Int, s.Perm ns ∧ s.Pairwise (· ≤ ·) := by
  refine ⟨ns.mergeSort (fun a b => decide (a ≤ b)), List.mergeSort_perm _ _, ?_⟩
  have := List.pairwise_mergeSort (le := fun (a b : Int) => decide (a ≤ b)) (fun a b c h1 h2 => by simp at *; omega) (fun a b => by simp; omega) ns
  exact this.imp fun h => of_decide_eq_true h
theorem strict_of {s : List Int} (h : s.Pairwise (· ≤ ·)) (nd : s.Nodup) : s.Pairwise (· < ·) := by
  have := h.and nd
  exact this.imp fun ⟨a, b⟩ => by omega
theorem divInt_lt {a b P : Int} (hP : 0 < P) (h : a < b) : Rat.divInt a P < Rat.divInt b P := by
  rw [Rat.divInt_eq_div, Rat.divInt_eq_div]
  have p0 : (0 : Rat) < (P : Rat) := Rat.intCast_pos.mpr hP
  refine Rat.lt_of_mul_lt_mul_right (c := (P : Rat)) ?_ (by grind)
  rw [Rat.div_mul_cancel (by grind), Rat.div_mul_cancel (by grind)]
  exact Rat.intCast_lt_intCast.mpr h
theorem divInt_self1 {P : Int} (hP : 0 < P) : Rat.divInt P P = 1 := Rat.divInt_self' (by omega)
theorem divInt_gr {a P : Int} (hP : 0 < P) : Gr P.toNat (Rat.divInt a P) := by
  refine ⟨a, ?_⟩
  rw [Rat.divInt_eq_div]
  have p0 : (0 : Rat) < (P : Rat) := Rat.intCast_pos.mpr hP
  have e : ((P.toNat : Nat) : Rat) = (P : Rat) := by
    have : ((P.toNat : Nat) : Int) = P := by omega
    rw [← Rat.intCast_natCast, this]
  rw [e, Rat.div_mul_cancel (by grind)]
theorem val_of {P : Int} (hP : 0 < P) : ∀ (T : Steps) (Es : List Int) (b : Int), T.map (·.1) = Es.map (fun e => Rat.divInt e P) → (∀ x ∈ T, 1 ≤ x.2 ∧ x.2 ≤ 1000) → Es.Pairwise (· < ·) → (∀ e ∈ Es, b < e) → ((b :: Es).getLast? = some P) → Val (Rat.divInt b P) T
  | [], [], b, _, _, _, _, h => by
    have e : b = P := Option.some.inj h
    show Rat.divInt b P = 1
    rw [e]
    exact divInt_self1 hP
  | [], e :: r, _, h, _, _, _, _ => by simp at h
  | x :: T, [], _, h, _, _, _, _ => by simp at h
  | (l, w) :: T, e :: r, b, h, hw, hp, hb, hl => by
    rw [List.map_cons, List.map_cons, List.cons.injEq] at h
    obtain ⟨h1, h2⟩ := h
    have h1 : l = Rat.divInt e P := h1
    obtain ⟨p1, p2⟩ := List.pairwise_cons.mp hp
    obtain ⟨w1, w2⟩ := hw (l, w) (List.mem_cons_self ..)
    refine ⟨?_, w1, w2, ?_⟩
    · rw [h1]
      exact divInt_lt hP (hb e (List.mem_cons_self ..))
    · rw [h1]
      refine val_of hP T r e h2 (fun x hx => hw x (List.mem_cons_of_mem _ hx)) p2 p1 ?_
      rw [List.getLast?_cons_cons] at hl
      exact hl
theorem good_of {P : Int} (h2 : 0 < P) (h1000 : P ≤ 1000) {T : Steps} {Es : List Int} (h : T.map (·.1) = Es.map (fun e => Rat.divInt e P)) (hw : ∀ x ∈ T, 1 ≤ x.2 ∧ x.2 ≤ 1000) (hp : Es.Pairwise (· < ·)) (hb : ∀ e ∈ Es, 0 < e) (hl : Es.getLast? = some P) (h8 : Es.length ≤ 8) : Good T := by
  have hlen : T.length = Es.length := by
    have := congrArg List.length h
    rw [List.length_map, List.length_map] at this
    exact this
  have hne : Es ≠ [] := fun q => by
    rw [q] at hl
    cases hl
  have h0 : Rat.divInt 0 P = 0 := Rat.zero_divInt P
  have v := val_of h2 T Es 0 h hw hp hb (by
    cases Es with
    | nil => exact absurd rfl hne
    | cons e r =>
      rw [List.getLast?_cons_cons]
      exact hl)
  rw [h0] at v
  refine ⟨v, ?_, by omega, P.toNat, by omega, by omega, fun x hx => ?_⟩
  · rw [hlen]
    exact List.length_pos_iff.mpr hne
  · have : x.1 ∈ T.map (·.1) := List.mem_map.mpr ⟨x, hx, rfl⟩
    rw [h] at this
    obtain ⟨e, _, he⟩ := List.mem_map.mp this
    rw [← he]
    exact divInt_gr h2
end Fk
end
section
set_option Elab.async false
set_option linter.all false
set_option maxRecDepth 100000
set_option maxHeartbeats 2000000
namespace Fk
open PySem PySem.Spec PyProof.Rows L2 Evl
section
variable {P : Program} {w : World} {K : PySem.W.Frag} {mg : Str → Option Value} {base : Heap} {H H' : Hp} {σ : L2.St} {te ta tb : TE} {D : Ends} {tz : TS}
abbrev lStepsBy : Stmt := top 39
abbrev nStepsBy : List Str := ["_law_cell", "_law_parts", "_law_ends", "_law_many", "_law_k", "_law_end", "_law_steps", "_law_weight"]
theorem lc_stepsby : FnScope nStepsBy ["_law_cell"] (defScope lStepsBy) := ⟨rfl, rfl, rfl, by decide +kernel, rfl, by decide +kernel, by decide +kernel⟩
theorem el_sortedI {ns s : List Int} (hs : s.Perm ns) (hp : s.Pairwise (· ≤ ·)) (h64 : ns.length < 64) (h : EvL te σ H (ns.map V.int)) : EvL (tCB (rSorted K) (tCons te tNil)) σ H (s.map V.int) := fun H1 x Q q =>
  h H1 x _ fun p H2 hp0 x2 h2 => ⟨p, ns, rfl, SqL.of h2, h64, fun ns' r hperm hle hr => by
    have e : ns' = s := (hperm.trans hs.symm).eq_of_pairwise (le := (· ≤ ·)) (fun a b _ _ x y => Int.le_antisymm x y) hle hp
    rw [e]
    exact q r _ (fresh_back x2 hr) (x2.trans (Ex.new hr)) upd_same⟩
theorem el_slN {tl th : TO} {xs : List V} {lo hi : Option Int} (h : EvL te σ H xs) (h1 : ∀ H1, Ex H H1 → EvO tl σ H1 lo) (h2 : ∀ H1, Ex H H1 → EvO th σ H1 hi) : EvL (tSl (rSlL K) te tl th) σ H (cutV xs lo hi) := fun H1 e Q q =>
  h H1 e _ fun p H2 hp e2 hx => h1 H2 (e.trans e2) H2 (Ex.refl H2) _ fun H3 e3 => h2 H3 ((e.trans e2).trans e3) H3 (Ex.refl H3) _ fun H4 e4 =>
    ⟨p, xs, rfl, SqL.of ((e3.trans e4) _ _ hx), fun r hr => q r _ (fresh_back ((e2.trans e3).trans e4) hr) (((e2.trans e3).trans e4).trans (Ex.new hr)) upd_same⟩
theorem el_cat {xs ys : List V} (h1 : EvL ta σ H xs) (h2 : ∀ H1, Ex H H1 → EvL tb σ H1 ys) (hl : xs.length + ys.length ≤ 100000) : EvL (tOp rCat ta tb) σ H (xs ++ ys) := fun H1 e Q q =>
  h1 H1 e _ fun p H2 hp e2 hx => h2 H2 (e.trans e2) H2 (Ex.refl H2) _ fun r H3 hr e3 hy => ⟨p, r, xs, ys, rfl, rfl, e3 _ _ hx, hy, sz_of hl, fun t ht => q t _ (fresh_back (e2.trans e3) ht) ((e2.trans e3).trans (Ex.new ht)) upd_same⟩
theorem inV_int {e : Int} : ∀ {es : List Int}, inV (.int e) (es.map V.int) = decide (e ∈ es)
  | [] => rfl
  | x :: r => by
    have ih := inV_int (e := e) (es := r)
    unfold inV at ih ⊢
    rw [List.map_cons, List.any_cons, ih]
    show ((x == e) || decide (e ∈ r)) = decide (e ∈ x :: r)
    rw [Bool.eq_iff_iff]
    simp only [Bool.or_eq_true, beq_iff_eq, decide_eq_true_eq, List.mem_cons]
    exact ⟨fun h => h.imp Eq.symm id, fun h => h.imp Eq.symm id⟩
theorem flat_ints (es : List Int) : (es.map V.int).all flatV = true := by
  rw [List.all_map]
  exact List.all_eq_true.mpr fun _ _ => rfl
def spStepsBy (K : PySem.W.Frag) : Sp := fun vs H Q _ => ∃ c, vs = [.int c] ∧ ∀ T p ws H', Good T → H p = none → Ex H H' → H' p = some (.lst ws) → DpAll K H' ws (T.map stepD) → Q (.ref p) H'
theorem ok_stepsby {f : Addr} {fd : FuncData} (F : Fun K "_law_steps_by" "_law_steps_by" lStepsBy f fd) (Lm : Has P w K mg base "_law_mixed" 1 ["_law_cell", "_law_k"] (spP K R_mix)) (Ll : Has P w K mg base "_law_low" 1 ["_law_a", "_law_b"] (spP K R_low)) (ml : mg "len" = none) (mr : mg "range" = none) (ms : mg "sorted" = none) :
    FnOk P w K mg base CX0 2 f fd ["_law_cell"] (spStepsBy K) := by
  refine F.ok lc_stepsby (fun vs H Q E h => by obtain ⟨c, rfl, _⟩ := h; rfl) fun cdv A outer s0 H vs Q E hr h => ?_
  obtain ⟨c, rfl, hQ⟩ := h
  refine ⟨_, pss_cons (ps_set (i := 1) lc_stepsby.nd rfl (.inl rfl) pe_int)
    (pss_cons (ps_if (pt_cmpR op_eq (pe_op op_mod (pv 0) pe_int) pe_int (nomark _)) (pss_one (ps_set (i := 1) lc_stepsby.nd rfl (.inl rfl) (pe_op op_add pe_int (pe_op op_mod (pe_op op_fdiv (pv 0) pe_int) pe_int)))) pss_nil)
    (pss_cons (ps_set (i := 2) lc_stepsby.nd rfl (.inl rfl) (pe_lst pa_nil))
    (pss_cons (ps_set (i := 3) lc_stepsby.nd rfl (.inl rfl) (pe_op op_mod (pe_op op_fdiv (pv 0) pe_int) pe_int))
    (pss_cons (ps_if (pt_cmpR op_eq (pe_op op_mod (pe_op op_fdiv (pv 0) pe_int) pe_int) pe_int (nomark _)) (pss_one (ps_set (i := 3) lc_stepsby.nd rfl (.inl rfl) (pe_op op_mod (pe_op op_fdiv (pv 0) pe_int) pe_int))) pss_nil)
    (pss_cons (ps_for PassesOwn.never rfl (pi_range1 (by rfl) mr (pa1 (pv 3))) (pg_name (i := 4) lc_stepsby.nd rfl (.inl rfl))
      (pss_cons (ps_set (i := 5) lc_stepsby.nd rfl (.inl rfl) (pe_op op_add pe_int (pe_op op_mod (pe_callH Lm hr (pa2 (pv 0) (pv 4))) (pv 1))))
      (pss_one (ps_if (PW.pt (pw_and (pt_cmpR op_lt (pv 5) (pv 1) (nomark _)) (pw_and1 (pt_cmpR op_notIn_seq (pv 5) (pv 2) (by rfl)))))
        (pss_one (ps_expr (pe_bm PySem.F.plainAttrs_list PySem.F.slot_list_append PySem.F.type_list_append mt_append (pv 2) (pa1 (pv 5))))) pss_nil))))
    (pss_cons (ps_set (i := 6) lc_stepsby.nd rfl (.inl rfl) (pe_lst pa_nil))
    (pss_cons (ps_for PassesOwn.never rfl (pi_list (pe_op op_cat (pe_slice sl_list (pe_callB cr_sorted (by rfl) ms boot_sorted (pa1 (pv 2))) po_none (po_some pe_int)) (pe_lst (pa1 (pv 1))))) (pg_name (i := 5) lc_stepsby.nd rfl (.inl rfl))
      (pss_cons (ps_set (i := 7) lc_stepsby.nd rfl (.inl rfl) (pe_op op_add pe_int (pe_op op_mod (pe_callH Lm hr (pa2 (pv 0) (pe_op op_add pe_int (lenk K ml (pv 6))))) pe_int)))
      (pss_cons (ps_if (pt_cmpR op_eq (pe_op op_mod (pe_op op_fdiv (pv 0) pe_int) pe_int) pe_int (nomark _)) (pss_one (ps_set (i := 7) lc_stepsby.nd rfl (.inl rfl) (pe_op op_add pe_int (pe_op op_mod (pe_callH Lm hr (pa2 (pv 0) (pe_op op_add pe_int (lenk K ml (pv 6))))) pe_int)))) pss_nil)
      (pss_one (ps_expr (pe_bm PySem.F.plainAttrs_list PySem.F.slot_list_append PySem.F.type_list_append mt_append (pv 6) (pa1 (pe_tup (pa2 (pe_callH Ll hr (pa2 (pv 5) (pv 1))) (pv 7))))))))))
    (pss_one (ps_ret (pv 6)))))))))), ?_⟩
  -- parts
  refine q_asg (v := .int 12) ev_c fun H1 e1 => ?_
  have m7 := Int.emod_nonneg (c / 7) (show (999 : Int) ≠ 0 by decide)
  have m7' := Int.emod_lt_of_pos (c / 7) (show (0 : Int) < 999 by decide)
  obtain ⟨pn, hpn, hp2, hp1000⟩ : ∃ pn : Int, pn = (if V.int (c % 7) = V.int 1 then 2 + c / 7 % 999 else 12) ∧ 2 ≤ pn ∧ pn ≤ 1000 := ⟨_, rfl, by split <;> omega, by split <;> omega⟩
  refine q_ifAsg (v := .int pn) (b := decide (V.int (c % 7) = V.int 1)) (et_test (ev_op (ev_op (ev_var rfl) ev_c (rv_I (by decide))) ev_c (rv_eq rfl))) (fun hb => ?_) (fun hb => ?_) fun H2 e2 => ?_
  · refine ev_is (ev_op ev_c (ev_op (ev_op (ev_var rfl) ev_c (rv_I ⟨by decide, by decide⟩)) ev_c (rv_I (by decide))) rv_I0) ?_
    rw [hpn, if_pos (of_decide_eq_true hb)]
  · rw [hpn, if_neg (of_decide_eq_false hb)]
    rfl
  have e02 := e1.trans e2
  -- ends
  refine q_asgL (el_lst ea_nil (Nat.zero_le _)) fun l1 H3 hl10 e3 hl1 => ?_
  have hl1H : H l1 = none := fresh_back e02 hl10
  have e03 := e02.trans e3
  -- many
  have k4 := Int.emod_nonneg (c / 5) (show (4 : Int) ≠ 0 by decide)
  have k4' := Int.emod_lt_of_pos (c / 5) (show (0 : Int) < 4 by decide)
  have k9 := Int.emod_nonneg (c / 5) (show (9 : Int) ≠ 0 by decide)
  have k9' := Int.emod_lt_of_pos (c / 5) (show (0 : Int) < 9 by decide)
  refine q_asg (v := .int (c / 5 % 4)) (ev_op (ev_op (ev_var rfl) ev_c (rv_I ⟨by decide, by decide⟩)) ev_c (rv_I (by decide))) fun H4 e4 => ?_
  obtain ⟨mn, hmn, mn0, mn8⟩ : ∃ mn : Int, mn = (if V.int (c / 20 % 4) = V.int 1 then c / 5 % 9 else c / 5 % 4) ∧ 0 ≤ mn ∧ mn ≤ 8 := ⟨_, rfl, by split <;> omega, by split <;> omega⟩
  refine q_ifAsg (v := .int mn) (b := decide (V.int (c / 20 % 4) = V.int 1)) (et_test (ev_op (ev_op (ev_op (ev_var rfl) ev_c (rv_I ⟨by decide, by decide⟩)) ev_c (rv_I (by decide))) ev_c (rv_eq rfl))) (fun hb => ?_) (fun hb => ?_) fun H5 e5 => ?_
  · refine ev_is (ev_op (ev_op (ev_var rfl) ev_c (rv_I ⟨by decide, by decide⟩)) ev_c (rv_I (by decide))) ?_
    rw [hmn, if_pos (of_decide_eq_true hb)]
  · rw [hmn, if_neg (of_decide_eq_false hb)]
    rfl
  have e05 := (e03.trans e4).trans e5
  -- the ends, drawn
  refine q_forR1 (n := mn) (ea_cons (ev_var rfl) ea_nil) ⟨mn0, by omega⟩ (fun i σ H' => ∃ es x4 x5, σ = [some (.int c), some (.int pn), some (.ref l1), some (.int mn), x4, x5, none, none] ∧ Ex H H' ∧ H' l1 = some (.lst (es.map V.int)) ∧ es.length ≤ i ∧ es.Nodup ∧ ∀ e ∈ es, 1 ≤ e ∧ e < pn)
    (fun H6 e6 => ⟨[], none, none, rfl, e05.trans e6, e6 _ _ (e5 _ _ (e4 _ _ hl1)), Nat.le_refl _, List.nodup_nil, fun _ h => absurd h (by simp)⟩) (fun i σ' H' hi p => ?_) fun σ' H' p => ?_
  · obtain ⟨es, x4, x5, rfl, hE, hl, hlen, hnd, hes⟩ := p
    have r0 := Int.emod_nonneg (mixF c i) (show pn ≠ 0 by omega)
    have r1 := Int.emod_lt_of_pos (mixF c i) (show 0 < pn by omega)
    refine q_asg (v := .int (1 + mixF c i % pn)) (ev_op ev_c (ev_op (ev_int (ed_call (ead_cons (ed_int (ev_var rfl)) (ead_cons (ed_int (ev_var rfl)) ead_nil)) ⟨c, i, rfl, rfl⟩)) (ev_var rfl) (rv_I (by omega))) rv_I0) fun H7 e7 => ?_
    generalize hee : 1 + mixF c i % pn = ee at *
    refine s_when (b := decide (ee < pn) && !inV (.int ee) (es.map V.int)) (et_and (et_test (ev_op (ev_var rfl) (ev_var rfl) rv_I0)) fun _ => et_test (ev_op (ev_var rfl) (ev_var rfl) (rv_niL (K := K) (SqL.of (e7 _ _ hl)) rfl (flat_ints es)))) (fun hb H8 e8 => ?_) fun hb H8 e8 => ?_
    · rw [inV_int, Bool.and_eq_true] at hb
      have h1 : ee < pn := of_decide_eq_true hb.1
      have h2 : ee ∉ es := fun z => by
        have q := hb.2
        rw [decide_eq_true z] at q
        cases q
      refine s_app (e8 _ _ (e7 _ _ hl)) (ev_var rfl) (ev_var rfl) (by rw [List.length_map]; omega) fun H9 e9 => ?_
      refine ⟨es ++ [ee], _, _, rfl, Ex.mut (((hE.trans e7).trans e8).trans e9) hl1H, by rw [upd_same, List.map_append]; rfl, by rw [List.length_append, List.length_singleton]; omega, ?_, fun e he => ?_⟩
      · exact List.nodup_append.mpr ⟨hnd, by simp, fun a ha b hb q => by
          rw [List.mem_singleton] at hb
          subst hb
          subst q
          exact h2 ha⟩
      · rcases List.mem_append.mp he with he | he
        · exact hes e he
        · rw [List.mem_singleton] at he
          subst he
          omega
    · exact ⟨es, _, _, rfl, (hE.trans e7).trans e8, e8 _ _ (e7 _ _ hl), by omega, hnd, hes⟩
  · obtain ⟨es, x4, x5, rfl, hE, hl, hlen, hnd, hes⟩ := p
    -- steps
    refine q_asgL (el_lst ea_nil (Nat.zero_le _)) fun l2 H6 hl20 e6 hl2 => ?_
    have hl2H : H l2 = none := fresh_back hE hl20
    have hE6 := hE.trans e6
    obtain ⟨s, sp, ss⟩ := sort_ex es
    have slen : s.length ≤ 8 := by rw [sp.length_eq]; omega
    have cutE : cutV (s.map V.int) none (some ((7 : Nat) : Int)) = (s.take 7).map V.int := by rw [cut_take, List.map_take]
    have elL : EvL (tOp rCat (tSl (rSlL K) (tCB (rSorted K) (tCons (tVar 2) tNil)) tNoPart (tPart (tC (.int 7)))) (tLst (tCons (tVar 1) tNil))) [some (.int c), some (.int pn), some (.ref l1), some (.int mn), x4, x5, some (.ref l2), none] H6 ((s.take 7 ++ [pn]).map V.int) := by
      have q1 := el_slN (K := K) (te := tCB (rSorted K) (tCons (tVar 2) tNil)) (tl := tNoPart) (th := tPart (tC (.int 7))) (σ := [some (.int c), some (.int pn), some (.ref l1), some (.int mn), x4, x5, some (.ref l2), none]) (H := H6) (xs := s.map V.int) (lo := none) (hi := some ((7 : Nat) : Int)) ?_ (fun _ _ => eo_none) (fun _ _ => eo_some ev_c)
      · rw [cutE] at q1
        have q2 := el_cat (tb := tLst (tCons (tVar 1) tNil)) (ys := [.int pn]) q1 (fun H7 e7 => el_lst (ea_cons (ev_var rfl) ea_nil) (by show 1 ≤ 100000; decide)) (by rw [List.length_map, List.length_take, List.length_singleton]; omega)
        rw [List.map_append]
        exact q2
      · intro H7 e7 Q' q
        exact ⟨_, rfl, l1, es, rfl, SqL.of (e7 _ _ (e6 _ _ hl)), by omega, fun ns' r hperm hle hr => by
          have e : ns' = s := (hperm.trans sp.symm).eq_of_pairwise (le := (· ≤ ·)) (fun a b _ _ x y => Int.le_antisymm x y) hle ss
          rw [e]
          exact q r _ hr (Ex.new hr) upd_same⟩
    generalize hEs : s.take 7 ++ [pn] = Es at *
    have es7 : Es.length ≤ 8 := by
      rw [← hEs, List.length_append, List.length_take, List.length_singleton]
      omega
    have smem : ∀ e ∈ s.take 7, 1 ≤ e ∧ e < pn := fun e he => hes e (sp.mem_iff.mp (List.mem_of_mem_take he))
    have esp : Es.Pairwise (· < ·) := by
      rw [← hEs]
      refine List.pairwise_append.mpr ⟨(strict_of ss (sp.nodup_iff.mpr hnd)).sublist (List.take_sublist 7 s), by simp, fun a ha b hb => ?_⟩
      rw [List.mem_singleton] at hb
      subst hb
      exact (smem a ha).2
    have esb : ∀ e ∈ Es, 1 ≤ e ∧ e ≤ pn := fun e he => by
      rw [← hEs] at he
      rcases List.mem_append.mp he with he | he
      · have := smem e he
        omega
      · rw [List.mem_singleton] at he
        omega
    have esl : Es.getLast? = some pn := by rw [← hEs, List.getLast?_append]; rfl
    refine q_forNLn (K := K) elL (fun p i σ H' => ∃ (T : Steps) (ws : List V) (x4 x5 x7 : Option V), σ = [some (.int c), some (.int pn), some (.ref l1), some (.int mn), x4, x5, some (.ref l2), x7] ∧ Ex H H' ∧ p ≠ l2 ∧ H' p = some (.lst (Es.map V.int)) ∧ H' l2 = some (.lst ws) ∧ DpAll K H' ws (T.map stepD) ∧ T.length = i ∧ T.map (·.1) = (Es.take i).map (fun e => Rat.divInt e pn) ∧ ∀ x ∈ T, 1 ≤ x.2 ∧ x.2 ≤ 1000)
      (fun p H7 hp0 e7 hp => ⟨[], [], x4, x5, none, rfl, hE6.trans e7, fun q => (by rw [q, hl2] at hp0; cases hp0), hp, e7 _ _ hl2, .nil, rfl, rfl, fun _ h => absurd h (by simp)⟩)
      (fun p i σ' H' _ q => by obtain ⟨_, _, _, _, _, _, _, _, q, _⟩ := q; exact SqL.of q) (fun p i x σ' H' hx q => ?_) fun p σ' H' q => ?_
    · obtain ⟨T, ws, x4, x5, x7, rfl, hE, hpl, hp, hl2', hds, hlen', hT, hw⟩ := q
      obtain ⟨e, he, rfl⟩ : ∃ e : Int, Es[i]? = some e ∧ x = .int e := by
        rw [List.getElem?_map] at hx
        cases hz : Es[i]? with
        | none => rw [hz] at hx; cases hx
        | some e =>
          rw [hz] at hx
          exact ⟨e, rfl, (Option.some.inj hx).symm⟩
      have i8 : i < 8 := by
        have := (List.getElem?_eq_some_iff.mp he).1
        omega
      obtain ⟨e1', e2'⟩ := esb e (List.mem_of_getElem? he)
      have wslen : ws.length = i := by rw [hds.len, List.length_map, hlen']
      have lenEv : ∀ {H7 : Hp} {x7}, Ex H' H7 → Ev (tOp (rI0 fun i j => .int (i + j)) (tC (.int 9)) (tCB (rLenS K) (tCons (tVar 6) tNil))) [some (.int c), some (.int pn), some (.ref l1), some (.int mn), x4, some (.int e), some (.ref l2), x7] H7 (.int (9 + (i : Int))) := fun e7 =>
        ev_is (ev_op ev_c (ev_len (ev_var rfl) (SqL.of (e7 _ _ hl2'))) rv_I0) (by rw [wslen])
      have a0 := Int.emod_nonneg (mixF c (9 + i)) (show (9 : Int) ≠ 0 by decide)
      have a1 := Int.emod_lt_of_pos (mixF c (9 + i)) (show (0 : Int) < 9 by decide)
      have b0 := Int.emod_nonneg (mixF c (9 + i)) (show (1000 : Int) ≠ 0 by decide)
      have b1 := Int.emod_lt_of_pos (mixF c (9 + i)) (show (0 : Int) < 1000 by decide)
      refine q_asg (v := .int (1 + mixF c (9 + i) % 9)) (ev_op ev_c (ev_op (ev_int (ed_call (ead_cons (ed_int (ev_var rfl)) (ead_cons (ed_int (lenEv (Ex.refl _))) ead_nil)) ⟨c, 9 + i, rfl, rfl⟩)) ev_c (rv_I (by decide))) rv_I0) fun H7 e7 => ?_
      obtain ⟨wv, hwv, wv1, wv1000⟩ : ∃ wv : Nat, (wv : Int) = (if V.int (c / 11 % 8) = V.int 1 then 1 + mixF c (9 + i) % 1000 else 1 + mixF c (9 + i) % 9) ∧ 1 ≤ wv ∧ wv ≤ 1000 := by
        split
        · exact ⟨(1 + mixF c (9 + i) % 1000).toNat, by omega, by omega, by omega⟩
        · exact ⟨(1 + mixF c (9 + i) % 9).toNat, by omega, by omega, by omega⟩
      refine q_ifAsg (v := .int (wv : Int)) (b := decide (V.int (c / 11 % 8) = V.int 1)) (et_test (ev_op (ev_op (ev_op (ev_var rfl) ev_c (rv_I ⟨by decide, by decide⟩)) ev_c (rv_I (by decide))) ev_c (rv_eq rfl))) (fun hb => ?_) (fun hb => ?_) fun H8 e8 => ?_
      · refine ev_is (ev_op ev_c (ev_op (ev_int (ed_call (ead_cons (ed_int (ev_var rfl)) (ead_cons (ed_int (lenEv e7)) ead_nil)) ⟨c, 9 + i, rfl, rfl⟩)) ev_c (rv_I (by decide))) rv_I0) ?_
        rw [hwv, if_pos (of_decide_eq_true hb)]
      · rw [hwv, if_neg (of_decide_eq_false hb)]
        rfl
      have e78 := e7.trans e8
      refine s_appD (d := stepD (Rat.divInt e pn, wv)) (e78 _ _ hl2') (ev_var rfl) (ed_tup (ead_cons (ed_call (ead_cons (ed_int (ev_var rfl)) (ead_cons (ed_int (ev_var rfl)) ead_nil)) ⟨e, pn, rfl, by omega, by omega, ?_, rfl⟩) (ead_cons (ed_int (ev_var rfl)) ead_nil)) (by show 2 ≤ 100000; decide)) (by omega) fun v9 H9 e9 k9 => ?_
      · exact (Sm.small (i := pn) (by omega)).mono (by decide)
      have e79 := e78.trans e9
      have hl9 := e79 _ _ hl2'
      refine ⟨T ++ [(Rat.divInt e pn, wv)], ws ++ [v9], _, _, _, rfl, Ex.mut (hE.trans e79) hl2H, hpl, by rw [upd_ne hpl]; exact e79 _ _ hp, upd_same, ?_, by rw [List.length_append, hlen']; rfl, ?_, fun x hx => ?_⟩
      · refine DpAll.upd hl9 (n := 2) ?_ ?_
        · rw [List.all_map]
          exact List.all_eq_true.mpr fun _ _ => rfl
        · rw [List.map_append]
          exact (hds.mono e79).app (.one k9)
      · rw [List.take_add_one, he, List.map_append, List.map_append, hT]
        rfl
      · rcases List.mem_append.mp hx with hx | hx
        · exact hw x hx
        · rw [List.mem_singleton] at hx
          subst hx
          exact ⟨wv1, wv1000⟩
    · obtain ⟨T, ws, x4, x5, x7, rfl, hE, hpl, hp, hl2', hds, hlen', hT, hw⟩ := q
      have tk : Es.take (Es.map V.int).length = Es := List.take_of_length_le (by rw [List.length_map]; exact Nat.le_refl _)
      rw [tk] at hT
      exact ⟨_, rfl, hQ T l2 ws H' (good_of (by omega) hp1000 hT hw esp (fun e he => by have := esb e he; omega) esl es7) hl2H hE hl2' hds⟩
end
end Fk
end
section
set_option Elab.async false
set_option linter.all false
set_option maxRecDepth 100000
set_option maxHeartbeats 2000000
namespace Fk
open PySem PySem.Spec PyProof.Rows L2 Evl
theorem mul_add_div (f x : Rat) (wt : Nat) : Rat.divInt (f.num * (x.den : Int) + x.num * (wt : Int) * (f.den : Int)) ((f.den : Int) * (x.den : Int)) = f + (wt : Rat) * x := by
  have hq : ((f.den : Nat) : Int) ≠ 0 := by have := f.den_nz; omega
  have hr : ((x.den : Nat) : Int) ≠ 0 := by have := x.den_nz; omega
  rw [← Rat.divInt_add_divInt _ _ hq hr, low_self]
  have e : Rat.divInt (x.num * (wt : Int)) (x.den : Int) = (wt : Rat) * x := by
    have := Rat.divInt_mul_divInt x.num (wt : Int) (d₁ := (x.den : Int)) (d₂ := 1)
    rw [Int.mul_one] at this
    rw [← this, low_self, Rat.divInt_eq_div]
    show x * ((wt : Rat) / (1 : Rat)) = _
    have : (wt : Rat) / (1 : Rat) = (wt : Rat) := by grind
    rw [this, Rat.mul_comm]
  rw [e]
theorem bd1s {G : Nat} {q : Rat} (hG : 0 < G) (hG2 : G ≤ 2 ^ 1000) (h : Gr G q) (h0 : 0 ≤ q) (hM : q ≤ 1) : Bd 1100 q := by
  refine Gr.bd (M := 1) hG h h0 (by simpa using hM) ?_
  refine Nat.lt_of_le_of_lt (Nat.mul_le_mul_left _ hG2) ?_
  show 2 ^ 1 * 2 ^ 1000 < 2 ^ 1100
  rw [← Nat.pow_add]
  exact Nat.pow_lt_pow_right (by decide) (by decide)
section
variable {P : Program} {w : World} {K : PySem.W.Frag} {mg : Str → Option Value} {base : Heap} {H H' : Hp} {σ : L2.St} {te ta tb tl : TE} {D : Ends} {tz : TS} {tt : TT}
abbrev lArea : Stmt := top 40
abbrev lWorth : Stmt := top 41
abbrev lFrac : Stmt := top 42
abbrev lPiece : Stmt := top 43
theorem lc_area : FnScope ["_law_steps", "_law_start", "_law_end", "_law_found", "_law_begin", "_law_last", "_law_weight", "_law_low_here", "_law_high", "_law_part"] ["_law_steps", "_law_start", "_law_end"] (defScope lArea) := ⟨rfl, rfl, rfl, by decide +kernel, rfl, by decide +kernel, by decide +kernel⟩
theorem lc_worth : FnScope ["_law_steps", "_law_piece_here", "_law_found", "_law_start", "_law_end", "_law_total"] ["_law_steps", "_law_piece_here"] (defScope lWorth) := ⟨rfl, rfl, rfl, by decide +kernel, rfl, by decide +kernel, by decide +kernel⟩
theorem lc_frac : FnScope ["_law_thing", "_law_one"] ["_law_thing"] (defScope lFrac) := ⟨rfl, rfl, rfl, by decide +kernel, rfl, by decide +kernel, by decide +kernel⟩
theorem lc_piece : FnScope ["_law_piece_here", "_law_last", "_law_span"] ["_law_piece_here"] (defScope lPiece) := ⟨rfl, rfl, rfl, by decide +kernel, rfl, by decide +kernel, by decide +kernel⟩
def R_larea : List PyData → PyData → Prop := fun ds d => ∃ T s e G, ds = [stepsD T, frD s, frD e] ∧ Good T ∧ GT G T ∧ On G s ∧ On G e ∧ d = frD (areaS 0 T s e)
theorem dps3 {vs : List V} {d e f : PyData} (h : DpAll K H vs [d, e, f]) : ∃ v w x, vs = [v, w, x] ∧ Dp K H v d ∧ Dp K H w e ∧ Dp K H x f := by
  cases h with
  | cons h1 h2 =>
    obtain ⟨w, x, rfl, a, b⟩ := dps2 h2
    exact ⟨_, w, x, rfl, h1, a, b⟩
theorem pr01 : frD 0 = pr 0 1 := rfl
theorem pr11 : frD 1 = pr 1 1 := rfl
theorem ed_01 : EvD K (tTup (tCons (tC (.int 0)) (tCons (tC (.int 1)) tNil))) σ H (frD 0) := ed_tup (ead_cons (ed_int ev_c) (ead_cons (ed_int ev_c) ead_nil)) (by show 2 ≤ 100000; decide)
theorem ed_11 : EvD K (tTup (tCons (tC (.int 1)) (tCons (tC (.int 1)) tNil))) σ H (frD 1) := ed_tup (ead_cons (ed_int ev_c) (ead_cons (ed_int ev_c) ead_nil)) (by show 2 ≤ 100000; decide)
theorem q_ifAsgD {tc : TT} {b : Bool} {i : Nat} {d1 d2 : PyData} {v2 : V} (h : EvT tc σ H b) (h1 : b = true → EvD K te σ H d1) (h2 : σ.set i (some v2) = σ) (hv2 : Dp K H v2 d2) (k : ∀ v H1, Ex H H1 → Dp K H1 v (if b = true then d1 else d2) → tz D (σ.set i (some v)) H1) : tSeq (tIfS tc (tAsg te (gName i)) tNext) tz D σ H :=
  q_when h (fun hb H1 e1 => s_asgD (D := { D with nx := tz D }) ((h1 hb).mono e1) fun v H2 e2 hv => k v H2 (e1.trans e2) (by rw [if_pos hb]; exact hv)) (fun hb H1 e1 => by
    have g := k v2 H1 e1 (by rw [if_neg (by rw [hb]; decide)]; exact hv2.mono e1)
    rw [h2] at g
    exact g)
theorem ok_larea {f : Addr} {fd : FuncData} (F : Fun K "_law_area" "_law_area" lArea f fd) (Lb : Has P w K mg base "_law_less" 1 ["_law_one", "_law_other"] (spP K R_below)) (Lp : Has P w K mg base "_law_sum" 2 ["_law_one", "_law_other"] (spP K (R_op gPlus hPlus))) (Lm : Has P w K mg base "_law_left" 2 ["_law_one", "_law_other"] (spP K (R_op gMinus hPlus))) :
    FnOk P w K mg base CX0 3 f fd ["_law_steps", "_law_start", "_law_end"] (spP K R_larea) := by
  refine okP F lc_area (fun ds d h => by obtain ⟨T, s, e, G, rfl, _⟩ := h; rfl) fun cdv A outer s0 H vs Q E ds d hr hv hR hQ => ?_
  obtain ⟨T, s, e, G, rfl, g, hG, hs, he, rfl⟩ := hR
  obtain ⟨vT, vs, ve, rfl, hvT, hvs, hve⟩ := dps3 hv
  refine ⟨_, pss_cons (ps_set (i := 3) lc_area.nd rfl (.inl rfl) (pe_tup (pa2 pe_int pe_int)))
    (pss_cons (ps_set (i := 4) lc_area.nd rfl (.inl rfl) (pe_tup (pa2 pe_int pe_int)))
    (pss_cons (ps_for PassesOwn.never rfl (pi_list (pv 0)) (pg_tup (by rfl) (pgs_cons (pg_name (i := 5) lc_area.nd rfl (.inl rfl)) (pgs_cons (pg_name (i := 6) lc_area.nd rfl (.inl rfl)) pgs_nil)))
      (pss_cons (ps_set (i := 7) lc_area.nd rfl (.inl rfl) (pv 4))
      (pss_cons (ps_set (i := 8) lc_area.nd rfl (.inl rfl) (pv 5))
      (pss_cons (ps_if (pt_val (pe_callH (Lb.mono (k := 2) (by decide)) hr (pa2 (pv 7) (pv 1)))) (pss_one (ps_set (i := 7) lc_area.nd rfl (.inl rfl) (pv 1))) pss_nil)
      (pss_cons (ps_if (pt_val (pe_callH (Lb.mono (k := 2) (by decide)) hr (pa2 (pv 2) (pv 8)))) (pss_one (ps_set (i := 8) lc_area.nd rfl (.inl rfl) (pv 2))) pss_nil)
      (pss_cons (ps_if (pt_val (pe_callH (Lb.mono (k := 2) (by decide)) hr (pa2 (pv 7) (pv 8))))
        (pss_cons (ps_set (i := 9) lc_area.nd rfl (.inl rfl) (pe_callH Lm hr (pa2 (pv 8) (pv 7))))
        (pss_one (ps_set (i := 3) lc_area.nd rfl (.inl rfl) (pe_callH Lp hr (pa2 (pv 3) (pe_tup (pa2 (pe_op op_mulW (ixk K (pv 9) pe_int) (pv 6)) (ixk K (pv 9) pe_int)))))))) pss_nil)
      (pss_one (ps_set (i := 4) lc_area.nd rfl (.inl rfl) (pv 5)))))))))
    (pss_one (ps_ret (pv 3))))), ?_⟩
  refine q_asgD (K := K) (d := frD 0) ed_01 fun vf H1 e1 kf => ?_
  refine q_asgD (K := K) (d := frD 0) ed_01 fun vb H2 e2 kb => ?_
  have e02 := e1.trans e2
  refine q_forV (ds := T.map stepD) rfl (hvT.mono e02) (fun i σ H' => ∃ fnd vf vb c x5 x6 x7 x8 x9, σ = [some vT, some vs, some ve, some vf, some vb, x5, x6, x7, x8, x9] ∧ Ex H2 H' ∧ Dp K H' vf (frD fnd) ∧ fnd + areaR ((rowsOf 0 T).drop i) s e = areaS 0 T s e ∧ Gr G fnd ∧ 0 ≤ fnd ∧ fnd ≤ ((1000 * i : Nat) : Rat) ∧ (begs 0 T)[i]? = some c ∧ Dp K H' vb (frD c))
    (fun H3 e3 => ⟨0, vf, vb, 0, none, none, none, none, none, rfl, e3, (kf.mono e2).mono e3, ?_, Gr.zero G, by grind, by simp, rfl, kb.mono e3⟩) (fun i σ' H' p => ?_) (fun i d x σ' H' hd hx p => ?_) fun σ' H' p => ?_
  · rw [List.drop_zero, areaR_rows]
    grind
  · obtain ⟨_, _, _, _, _, _, _, _, _, _, h1, _⟩ := p
    exact h1
  · obtain ⟨fnd, vf', vb', c, x5, x6, x7, x8, x9, rfl, hE, hfv, hsum, hgr, h0, hle, hc, hbv⟩ := p
    obtain ⟨⟨l, wt⟩, ht, rfl⟩ := map_get hd
    obtain ⟨c', h1, hr', _⟩ := Val.at g.val ht
    obtain rfl : c = c' := Option.some.inj (hc.symm.trans h1)
    obtain ⟨hb, hl, hbl, w1, w2, i8⟩ := row_at g hG hr'
    have hb : On G c := hb
    have hl : On G l := hl
    have w1 : 1 ≤ wt := w1
    have w2 : wt ≤ 1000 := w2
    have hE0 := e02.trans hE
    have bb := hb.bd hG
    have bl := hl.bd hG
    have bs := hs.bd hG
    have be := he.bd hG
    refine gtup2 hx fun vl vw kl kw => ?_
    obtain rfl := kw.int_inv
    refine q_asgD (d := frD c) (ed_var rfl hbv) fun v7 H3 e3 k7 => ?_
    refine q_asgD (d := frD l) (ed_var rfl (kl.mono e3)) fun v8 H4 e4 k8 => ?_
    have k7' := k7.mono e4
    refine q_ifAsgD (b := decide (c < s)) (d1 := frD s) (et_B (ev_bl (ed_call (ead_cons (ed_var rfl k7') (ead_cons (ed_var rfl (hvs.mono ((hE0.trans e3).trans e4))) ead_nil)) (R_lt bb bs)))) (fun _ => ed_var rfl (hvs.mono ((hE0.trans e3).trans e4))) rfl k7' fun v7 H5 e5 k7 => ?_
    have elo : (if decide (c < s) = true then frD s else frD c) = frD (cutLow c s) := by
      unfold cutLow
      by_cases q : c < s
      · rw [if_pos q, if_pos (decide_eq_true q)]
      · rw [if_neg q, if_neg (by rw [decide_eq_false q]; decide)]
    rw [elo] at k7
    have e35 := (e3.trans e4).trans e5
    refine q_ifAsgD (b := decide (e < l)) (d1 := frD e) (et_B (ev_bl (ed_call (ead_cons (ed_var rfl (hve.mono (hE0.trans e35))) (ead_cons (ed_var rfl (k8.mono e5)) ead_nil)) (R_lt be bl)))) (fun _ => ed_var rfl (hve.mono (hE0.trans e35))) rfl (k8.mono e5) fun v8 H6 e6 k8 => ?_
    have ehi : (if decide (e < l) = true then frD e else frD l) = frD (cutHigh l e) := by
      unfold cutHigh
      by_cases q : e < l
      · rw [if_pos q, if_pos (decide_eq_true q)]
      · rw [if_neg q, if_neg (by rw [decide_eq_false q]; decide)]
    rw [ehi] at k8
    have k7' := k7.mono e6
    have e36 := e35.trans e6
    have clo := cutLow_on hb hs
    have chi := cutHigh_on hl he
    have hrow := areaR_drop hr' s e
    have hrow : areaR ((rowsOf 0 T).drop i) s e = rowA s e c l wt + areaR ((rowsOf 0 T).drop (i + 1)) s e := hrow
    have nn := rowA_nonneg s e c l wt
    have gr := Gr.row (w := wt) hs.2.2 he.2.2 hb.2.2 hl.2.2
    have le := rowA_le (s := s) (e := e) hb.1 hl.2.1 w2
    have e1000 : ((1000 * (i + 1) : Nat) : Rat) = ((1000 * i : Nat) : Rat) + 1000 := by
      rw [Nat.mul_add, Rat.natCast_add]
      rfl
    refine q_when (b := decide (cutLow c s < cutHigh l e)) (et_B (ev_bl (ed_call (ead_cons (ed_var rfl k7') (ead_cons (ed_var rfl k8) ead_nil)) (R_lt (clo.bd hG) (chi.bd hG))))) (fun hb H7 e7 => ?_) fun hb H7 e7 => ?_
    · have hlt : cutLow c s < cutHigh l e := of_decide_eq_true hb
      have er : rowA s e c l wt = (wt : Rat) * (cutHigh l e - cutLow c s) := by
        unfold rowA
        rw [if_pos hlt]
      have b1 : Bd 1100 (cutHigh l e - cutLow c s) := bd1s hG.1 hG.2.1 (chi.2.2.sub clo.2.2) (by grind) (by have := chi.2.1; have := clo.1; grind)
      have b3 : Bd 2000 fnd := bdG (M := 1000 * i) hG.1 hG.2.1 hgr h0 hle (by omega)
      refine q_asgD (d := frD (cutHigh l e - cutLow c s)) (ed_call (ead_cons (ed_var rfl (k8.mono e7)) (ead_cons (ed_var rfl (k7'.mono e7)) ead_nil)) (R_minus (by grind) (chi.bd hG) (clo.bd hG))) fun v9 H8 e8 k9 => ?_
      generalize hx : cutHigh l e - cutLow c s = xx at *
      have sw : Sm 10 ((wt : Nat) : Int) := Sm.small (by omega)
      have x0 : 0 ≤ xx.num := Rat.num_nonneg.mpr (by grind)
      have f0 : 0 ≤ fnd.num := Rat.num_nonneg.mpr h0
      have e38 := (e36.trans e7).trans e8
      refine s_asgD (d := frD (fnd + (wt : Rat) * xx)) (ed_call (ds := [frD fnd, pr (xx.num * (wt : Int)) xx.den]) (ead_cons (ed_var rfl (hfv.mono e38)) (ead_cons (ed_tup (ead_cons (ed_int (ev_op (ev_pr0 (ed_var rfl k9)) (ev_var rfl) (rv_I (cm b1.1 sw)))) (ead_cons (ed_int (ev_pr1 (ed_var rfl k9))) ead_nil)) (by show 2 ≤ 100000; decide)) ead_nil)) ?_) fun v10 H9 e9 k10 => ?_
      · refine ⟨fnd.num, fnd.den, xx.num * (wt : Int), xx.den, rfl, b3.1, b3.2, (b1.1.mul sw).mono (by decide), b1.2.mono (by decide), ?_, Int.mul_pos (den_pos _) (den_pos _), ?_⟩
        · have p1 := Int.mul_nonneg f0 (Int.le_of_lt (den_pos xx))
          have p2 := Int.mul_nonneg (Int.mul_nonneg x0 (show (0 : Int) ≤ (wt : Int) by omega)) (Int.le_of_lt (den_pos fnd))
          show 0 ≤ fnd.num * (xx.den : Int) + xx.num * (wt : Int) * (fnd.den : Int)
          omega
        · rw [mul_add_div]
      · refine s_asgD (d := frD l) (ed_var rfl ((kl.mono e38).mono e9)) fun v11 H10 e10 k11 => ?_
        refine ⟨fnd + (wt : Rat) * xx, v10, v11, l, _, _, _, _, _, rfl, ((hE.trans e38).trans e9).trans e10, k10.mono e10, ?_, ?_, ?_, ?_, begs_next ht, k11⟩
        · grind
        · rw [← er]
          exact hgr.add gr
        · grind
        · rw [e1000]
          grind
    · have hlt : ¬ cutLow c s < cutHigh l e := of_decide_eq_false hb
      have er : rowA s e c l wt = 0 := by
        unfold rowA
        rw [if_neg hlt]
      refine s_asgD (d := frD l) (ed_var rfl (kl.mono (e36.trans e7))) fun v11 H8 e8 k11 => ?_
      refine ⟨fnd, vf', v11, l, _, _, _, _, _, rfl, (hE.trans (e36.trans e7)).trans e8, hfv.mono ((e36.trans e7).trans e8), ?_, hgr, h0, ?_, begs_next ht, k11⟩
      · rw [er] at hrow
        grind
      · rw [e1000]
        grind
  · obtain ⟨fnd, vf', vb', c, x5, x6, x7, x8, x9, rfl, hE, hfv, hsum, _⟩ := p
    have dl : (rowsOf 0 T).drop (T.map stepD).length = [] := by
      rw [List.length_map]
      exact List.drop_eq_nil_of_le (by rw [rowsOf_len]; exact Nat.le_refl _)
    rw [dl, areaR_nil] at hsum
    refine s_retD (ed_var rfl hfv) fun v2 H2 e2 k2 => hQ v2 H2 ((e02.trans hE).trans e2) ?_
    have ef : fnd = areaS 0 T s e := by grind
    rw [← ef]
    exact k2
end
end Fk
end
section
set_option Elab.async false
set_option linter.all false
set_option maxRecDepth 100000
set_option maxHeartbeats 2000000
namespace Fk
open PySem PySem.Spec PyProof.Rows L2 Evl
section
variable {P : Program} {w : World} {K : PySem.W.Frag} {mg : Str → Option Value} {base : Heap} {H H' : Hp} {σ : L2.St} {te ta tb tl : TE} {D : Ends} {tz : TS} {tt t : TT} {v : V}
def R_worth : List PyData → PyData → Prop := fun ds d => ∃ T s e G, ds = [stepsD T, .list [spanD (s, e)]] ∧ Good T ∧ GT G T ∧ On G s ∧ On G e ∧ d = frD (areaS 0 T s e / tot T)
theorem num_pos {q : Rat} (h : 0 < q) : 0 < q.num := by
  have x := (Rat.lt_iff 0 q).mp h
  simpa using x
theorem ok_lworth {f : Addr} {fd : FuncData} (F : Fun K "_law_worth" "_law_worth" lWorth f fd) (La : Has P w K mg base "_law_area" 3 ["_law_steps", "_law_start", "_law_end"] (spP K R_larea)) (Lp : Has P w K mg base "_law_sum" 2 ["_law_one", "_law_other"] (spP K (R_op gPlus hPlus))) (Ll : Has P w K mg base "_law_low" 1 ["_law_a", "_law_b"] (spP K R_low)) :
    FnOk P w K mg base CX0 4 f fd ["_law_steps", "_law_piece_here"] (spP K R_worth) := by
  refine okP F lc_worth (fun ds d h => by obtain ⟨T, s, e, G, rfl, _⟩ := h; rfl) fun cdv A outer s0 H vs Q E ds d hr hv hR hQ => ?_
  obtain ⟨T, s, e, G, rfl, g, hG, hs, he, rfl⟩ := hR
  obtain ⟨vT, vp, rfl, hvT, hvp⟩ := dps2 hv
  refine ⟨_, pss_cons (ps_set (i := 2) lc_worth.nd rfl (.inl rfl) (pe_tup (pa2 pe_int pe_int)))
    (pss_cons (ps_for PassesOwn.never rfl (pi_list (pv 1)) (pg_tup (by rfl) (pgs_cons (pg_name (i := 3) lc_worth.nd rfl (.inl rfl)) (pgs_cons (pg_name (i := 4) lc_worth.nd rfl (.inl rfl)) pgs_nil)))
      (pss_one (ps_set (i := 2) lc_worth.nd rfl (.inl rfl) (pe_callH (Lp.mono (k := 3) (by decide)) hr (pa2 (pv 2) (pe_callH La hr (pa_cons (pv 0) (pa_cons (pv 3) (pa_cons (pv 4) pa_nil)))))))))
    (pss_cons (ps_set (i := 5) lc_worth.nd rfl (.inl rfl) (pe_callH La hr (pa_cons (pv 0) (pa_cons (pe_tup (pa2 pe_int pe_int)) (pa_cons (pe_tup (pa2 pe_int pe_int)) pa_nil)))))
    (pss_one (ps_ret (pe_callH (Ll.mono (k := 3) (by decide)) hr (pa2 (pe_op op_mulW (ixk K (pv 2) pe_int) (ixk K (pv 5) pe_int)) (pe_op op_mulW (ixk K (pv 2) pe_int) (ixk K (pv 5) pe_int)))))))), ?_⟩
  have nn := areaS_nonneg T 0 s e
  have bA := area_bd g hG hs he
  have bT := area_bd g hG (on0 G) (on1 G)
  refine q_asgD (K := K) (d := frD 0) ed_01 fun vf H1 e1 kf => ?_
  refine q_forV (ds := [spanD (s, e)]) rfl (hvp.mono e1) (fun i σ H' => ∃ vf x3 x4, σ = [some vT, some vp, some vf, x3, x4, none] ∧ Ex H1 H' ∧ Dp K H' vf (frD (if i = 0 then 0 else areaS 0 T s e))) (fun H2 e2 => ⟨vf, none, none, rfl, e2, kf.mono e2⟩) (fun i σ' H' p => ?_) (fun i d x σ' H' hd hx p => ?_) fun σ' H' p => ?_
  · obtain ⟨_, _, _, _, q, _⟩ := p
    exact q
  · obtain ⟨vf', x3, x4, rfl, hE, hf⟩ := p
    have i0 : i = 0 := by
      have := (List.getElem?_eq_some_iff.mp hd).1
      simpa using this
    subst i0
    cases (Option.some.inj hd)
    refine gtup2 hx fun va vb ka kb => ?_
    have hE0 := e1.trans hE
    refine s_asgD (d := frD (0 + areaS 0 T s e)) (ed_call (ds := [frD 0, frD (areaS 0 T s e)]) (ead_cons (ed_var rfl hf) (ead_cons (ed_call (ead_cons (ed_var rfl (hvT.mono hE0)) (ead_cons (ed_var rfl ka) (ead_cons (ed_var rfl kb) ead_nil))) ⟨T, s, e, G, rfl, g, hG, hs, he, rfl⟩) ead_nil)) (R_plus (by grind) nn ((on0 G).bd hG) bA)) fun v2 H2 e2 k2 => ?_
    refine ⟨v2, _, _, rfl, hE.trans e2, ?_⟩
    rw [Rat.zero_add] at k2
    exact k2
  · obtain ⟨vf', x3, x4, rfl, hE, hf⟩ := p
    have hf : Dp K H' vf' (frD (areaS 0 T s e)) := hf
    have hE0 := e1.trans hE
    refine q_asgD (d := frD (areaS 0 T 0 1)) (ed_call (ead_cons (ed_var rfl (hvT.mono hE0)) (ead_cons ed_01 (ead_cons ed_11 ead_nil))) ⟨T, 0, 1, G, rfl, g, hG, on0 G, on1 G, rfl⟩) fun vt H2 e2 kt => ?_
    have tp : 0 < areaS 0 T 0 1 := g.tot_pos
    have n0 := Rat.num_nonneg.mpr nn
    have t0 := num_pos tp
    have kf2 := hf.mono e2
    refine s_retD (d := frD (areaS 0 T s e / tot T)) (ed_call (ds := [.int ((areaS 0 T s e).num * ((areaS 0 T 0 1).den : Int)), .int (((areaS 0 T s e).den : Int) * (areaS 0 T 0 1).num)]) (ead_cons (ed_int (ev_op (ev_pr0 (ed_var rfl kf2)) (ev_pr1 (ed_var rfl kt)) (rv_I (cm bA.1 bT.2)))) (ead_cons (ed_int (ev_op (ev_pr1 (ed_var rfl kf2)) (ev_pr0 (ed_var rfl kt)) (rv_I (cm bA.2 bT.1)))) ead_nil))
      ⟨_, _, rfl, Int.mul_nonneg n0 (Int.le_of_lt (den_pos _)), Int.mul_pos (den_pos _) t0, (bA.2.mul bT.1).mono (by decide), ?_⟩) fun v3 H3 e3 k3 => hQ v3 H3 ((hE0.trans e2).trans e3) k3
    rw [div_divInt]
    rfl
/-! ### a fraction, a piece -/
theorem el_lcU {a : Addr} {xs : List V} {j : Nat} {vs : List Nat} (f : Nat → Bool) (v : Nat → V) (h : Ev tl σ H (.ref a)) (hx : SqT K H a xs) (hz : xs.length ≤ 40000) (hw : ∀ x, wipe ((wipe σ vs).set j (some x)) vs = wipe σ vs)
    (ht : ∀ (i : Nat) (x : V) H1, Ex H H1 → xs[i]? = some x → EvT t ((wipe σ vs).set j (some x)) H1 (f i)) (he : ∀ (i : Nat) (x : V) H1, Ex H H1 → xs[i]? = some x → f i = true → Ev te ((wipe σ vs).set j (some x)) H1 (v i)) :
    EvL (tLc (iTup K tl) (gName j) t te vs) σ H (given xs.length f v) := fun H0 e Q q => h H0 e _ fun H1 e1 => ⟨a, rfl, ⟨xs, ex_t (e.trans e1) hx⟩, fun Dl hD =>
  lc_tup (xs := xs) (Cw H1 f v Dl) ⟨hD, Ex.new hD, upd_same⟩ (fun i H' _ p => ex_t ((e.trans e1).trans p.2.1) hx) (fun i x H' hi p => ⟨hw x, cw_turn p (by have := (List.getElem?_eq_some_iff.mp hi).1; omega) (ht i x H1 (e.trans e1) hi) (fun hf => he i x H1 (e.trans e1) hi hf)⟩)
    (fun H' p => q Dl H' (fresh_back e1 p.1) (e1.trans p.2.1) p.2.2)⟩
theorem ev_anyV {bs : List Bool} (h : EvL te σ H (bs.map V.bl)) : Ev (tCB (rAny K) (tCons te tNil)) σ H (.bl (bs.any id)) := fun H1 x Q q =>
  h H1 x _ fun p H2 hp x2 h2 => ⟨p, bs, rfl, SqL.of h2, q H2 x2⟩
theorem pe_isk {X : Cx} {e : Expr} {ta : TE} {x : Str} {n : String} {p1 p2 pos : Pos} (K : PySem.W.Frag) (he : PE X e ta) (mi : X.mg "isinstance" = none) (mx : X.mg x = none) (hv : bootBuiltins x = some (.type n)) (hK : X.K = K := by rfl) (gi : Gl X "isinstance" := by rfl) (gx : Gl X x := by rfl) (hn : x ≠ "__name__" := by decide) (hdb : (x == ("__debug__" : Str)) = false := by decide)
    (hs1 : starEach [e, .Name x p2] X.env = (false, eval e X.env) :: starEach [.Name x p2] X.env := by rfl) (hs2 : starEach [.Name x p2] X.env = (false, eval (.Name x p2) X.env) :: starEach [] X.env := by rfl) (hpl : (backTo pos (starEach [.Name x p2] X.env)).any (·.1) = false := by rfl) :
    PE X (.Call (.Name "isinstance" p1) [e, .Name x p2] [] pos) (tCB (rIsi K) (tCons ta (tCons (tC (.ty n)) tNil))) := by
  subst hK
  exact pe_isi he mi mx hv gi gx hn hdb hs1 hs2 hpl
theorem ok_lfrac {f : Addr} {fd : FuncData} (F : Fun K "_law_fraction" "_law_fraction" lFrac f fd) (L : Has P w K mg base "_law_low" 1 ["_law_a", "_law_b"] (spP K R_low)) (mi : mg "isinstance" = none) (mt : mg "tuple" = none) (ml : mg "len" = none) (ma : mg "any" = none) (mb : mg "bool" = none) (mn : mg "int" = none) :
    FnOk P w K mg base CX0 2 f fd ["_law_thing"] (spP K R_isfr) := by
  refine okP F lc_frac (fun ds d h => by obtain ⟨a, rfl, _⟩ := h; rfl) fun cdv A outer s H vs Q E ds d hr hv hR hQ => ?_
  obtain ⟨q, rfl, h0, hb, rfl⟩ := hR
  obtain ⟨v, rfl, hv1⟩ := dps1 hv
  refine ⟨_, pss_cons (ps_if (PW.pt (pw_or (pt_not (pt_val (pe_isi (pv 0) mi mt boot_tuple))) (pw_or1 (pt_cmpR op_ne (lenk K ml (pv 0)) pe_int (nomark _))))) (pss_one (ps_ret pe_bl)) pss_nil)
    (pss_cons (ps_if (pt_val (pe_callB (cr_any rfl) (by rfl) ma boot_any (pa1 (pe_lc (own := [("_law_one", 1)]) (g := gName 1) (tt := tYes) (by rfl) lc_frac.nd (pi_tup (pv 0)) (blkOk_by (own := [("_law_one", 1)]) (N := ["_law_thing", "_law_one"]) (sc := defScope lFrac) (by decide +kernel))
        (fun _ _ _ _ _ => pg_name (i := 1) lc_frac.nd rfl (Or.inl rfl)) (fun _ _ _ _ _ => pts_nil) (fun _ _ _ _ _ => pe_or (pe_isk K (pv 1) mi mb boot_bool) (pe_one (pe_not (pe_isk K (pv 1) mi mn boot_int)))))))) (pss_one (ps_ret pe_bl)) pss_nil)
    (pss_one (ps_ret (pe_and (pe_cmpR op_ge (ixk K (pv 0) pe_int) pe_int (nomark _)) (pe_and (pe_cmpR op_gt (ixk K (pv 0) pe_int) pe_int (nomark _)) (pe_one (pe_cmpR (op_eqD hr.units) (pe_callH L hr (pa2 (ixk K (pv 0) pe_int) (ixk K (pv 0) pe_int))) (pv 0) (nomark _)))))))), ?_⟩
  have ehv : ∀ {H1}, Ex H H1 → EvD K (tVar 0) [some v, none] H1 (pr q.num q.den) := fun e => ed_var rfl (hv1.mono e)
  have e0 := Ex.refl H
  refine q_when (b := false) (et_or (a := false) (b := false) (et_not (a := true) (et_B (ev_isi (ety_tup (ehv e0)) (.ty _) (kit_ty (by decide +kernel))))) fun _ => et_test (ev_is (ev_op (ev_lenT (ehv e0)) ev_c (rv_ne rfl)) rfl)) (fun hb => by cases hb) fun _ H1 e1 => ?_
  obtain ⟨p, xs, rfl, hx, hxs⟩ := (hv1.mono e1).tup_inv
  obtain rfl := dps_ints (ns := [q.num, (q.den : Int)]) hxs
  have el := el_lcU (K := K) (te := tOrV (tCB (rIsi K) (tCons (tVar 1) (tCons (tC (.ty "bool")) tNil))) (tNotV (tCB (rIsi K) (tCons (tVar 1) (tCons (tC (.ty "int")) tNil))))) (t := tYes) (j := 1) (vs := [1]) (σ := [some (.ref p), none]) (H := H1) (fun _ => true) (fun _ => V.bl false) (ev_var (i := 0) rfl) hx (by show 2 ≤ 40000; decide) (fun _ => rfl) (fun _ _ _ _ _ => et_yes) (fun i x H2 e2 hx _ => by
    obtain ⟨z, rfl⟩ : ∃ z, x = .int z := by
      match i, hx with
      | 0, hx => exact ⟨_, (Option.some.inj hx).symm⟩
      | 1, hx => exact ⟨_, (Option.some.inj hx).symm⟩
      | i + 2, hx => simp at hx
    exact ev_orV (a := false) (b := false) (ev_isi (ety_int (ev_var rfl)) (.ty _) (kit_ty (by decide +kernel))) fun _ => ev_notV (a := true) (ev_isi (ety_int (ev_var rfl)) (.ty _) (kit_ty (by decide +kernel))))
  have eb : given ([q.num, (q.den : Int)].map V.int).length (fun _ => true) (fun _ => V.bl false) = [false, false].map V.bl := rfl
  rw [eb] at el
  refine q_when (b := false) (et_B (ev_is (ev_anyV (K := K) el) rfl)) (fun hb => by cases hb) fun _ H3 e3 => ?_
  have n0 := Rat.num_nonneg.mpr h0
  have d0 := den_pos q
  have e13 := e1.trans e3
  refine s_ret (v := .bl true) (ev_is (ev_andV (ev_op (ev_pr0 (ehv e13)) ev_c rv_I0) fun _ => ev_andV (ev_op (ev_pr1 (ehv e13)) ev_c rv_I0) fun _ =>
    ev_eqD (n := 1) (m := 1) (p := True) (ed_call (ds := [.int q.num, .int q.den]) (ead_cons (ed_int (ev_pr0 (ehv e13))) (ead_cons (ed_int (ev_pr1 (ehv e13))) ead_nil)) ⟨_, _, rfl, n0, d0, hb.2.mono (by decide), rfl⟩) (ehv e13) rfl rfl (by rw [low_self]; exact ⟨fun _ => trivial, fun _ => rfl⟩)) ?_) fun H2 e2 => hQ _ H2 (e13.trans e2) (.bl true)
  rw [decide_eq_true (show 0 ≤ q.num from n0), decide_eq_true (show 0 < (q.den : Int) from d0)]
  rfl
/-- a span within the cake, of small numbers -/
def SpanOk (x : Rat × Rat) : Prop := 0 ≤ x.1 ∧ x.1 < x.2 ∧ x.2 ≤ 1 ∧ Bd 2000 x.1 ∧ Bd 2000 x.2
def pieceD (x : Rat × Rat) : PyData := .list [spanD x]
def R_piece : List PyData → PyData → Prop := fun ds d => ∃ x, ds = [pieceD x] ∧ SpanOk x ∧ d = .bool true
def rNotN1 : R2 := fun x y H Q => y = .non ∧ Q (.bl (!decide (x = .non))) H
theorem ok_lpiece {f : Addr} {fd : FuncData} (F : Fun K "_law_piece" "_law_piece" lPiece f fd) (Lf : Has P w K mg base "_law_fraction" 2 ["_law_thing"] (spP K R_isfr)) (Lb : Has P w K mg base "_law_less" 1 ["_law_one", "_law_other"] (spP K R_below)) (mi : mg "isinstance" = none) (mt : mg "tuple" = none) (ml : mg "len" = none) (mL : mg "list" = none) :
    FnOk P w K mg base CX0 3 f fd ["_law_piece_here"] (spP K R_piece) := by
  refine okP F lc_piece (fun ds d h => by obtain ⟨a, rfl, _⟩ := h; rfl) fun cdv A outer s0 H vs Q E ds d hr hv hR hQ => ?_
  obtain ⟨⟨s, e⟩, rfl, ⟨h0, hse, h1, bs, be⟩, rfl⟩ := hR
  have h0 : 0 ≤ s := h0
  have hse : s < e := hse
  have h1 : e ≤ 1 := h1
  obtain ⟨v, rfl, hv1⟩ := dps1 hv
  refine ⟨_, pss_cons (ps_if (pt_not (pt_val (pe_isi (pv 0) mi mL boot_list))) (pss_one (ps_ret pe_bl)) pss_nil)
    (pss_cons (ps_set (i := 1) lc_piece.nd rfl (.inl rfl) pe_non)
    (pss_cons (ps_for PassesOwn.never rfl (pi_list (pv 0)) (pg_name (i := 2) lc_piece.nd rfl (.inl rfl))
      (pss_cons (ps_if (PW.pt (pw_or (pt_not (pt_val (pe_isi (pv 2) mi mt boot_tuple))) (pw_or (pt_cmpR op_ne (lenk K ml (pv 2)) pe_int (nomark _)) (pw_or (pt_not (pt_val (pe_callH Lf hr (pa1 (ixk K (pv 2) pe_int))))) (pw_or1 (pt_not (pt_val (pe_callH Lf hr (pa1 (ixk K (pv 2) pe_int)))))))))) (pss_one (ps_ret pe_bl)) pss_nil)
      (pss_cons (ps_if (PW.pt (pw_or (pt_not (pt_val (pe_callH (Lb.mono (k := 2) (by decide)) hr (pa2 (ixk K (pv 2) pe_int) (ixk K (pv 2) pe_int))))) (pw_or1 (pt_val (pe_callH (Lb.mono (k := 2) (by decide)) hr (pa2 (pe_tup (pa2 pe_int pe_int)) (ixk K (pv 2) pe_int))))))) (pss_one (ps_ret pe_bl)) pss_nil)
      (pss_cons (ps_if (PW.pt (pw_and (pt_cmpR op_notN (pv 1) pe_non (nomark _)) (pw_and1 (pt_not (pt_val (pe_callH (Lb.mono (k := 2) (by decide)) hr (pa2 (pv 1) (ixk K (pv 2) pe_int)))))))) (pss_one (ps_ret pe_bl)) pss_nil)
      (pss_one (ps_set (i := 1) lc_piece.nd rfl (.inl rfl) (ixk K (pv 2) pe_int)))))))
    (pss_one (ps_ret pe_bl)))), ?_⟩
  refine q_when (b := false) (et_not (a := true) (et_B (ev_isi (ety_lst (ed_var rfl hv1)) (.ty _) (kit_ty (by decide +kernel))))) (fun hb => by cases hb) fun _ H1 e1 => ?_
  refine q_asg (v := .non) ev_c fun H2 e2 => ?_
  have e02 := e1.trans e2
  refine q_forV (ds := [spanD (s, e)]) rfl (hv1.mono e02) (fun i σ H' => ∃ x1 x2, σ = [some v, some x1, x2] ∧ Ex H2 H' ∧ (i = 0 → x1 = .non)) (fun H3 e3 => ⟨.non, none, rfl, e3, fun _ => rfl⟩) (fun i σ' H' p => ?_) (fun i d x σ' H' hd hx p => ?_) fun σ' H' p => ?_
  · obtain ⟨_, _, _, q, _⟩ := p
    exact q
  · obtain ⟨x1, x2, rfl, hE, hn⟩ := p
    have i0 : i = 0 := by
      have := (List.getElem?_eq_some_iff.mp hd).1
      simpa using this
    subst i0
    cases (Option.some.inj hd)
    obtain rfl := hn rfl
    have ehx : ∀ {H3}, Ex H' H3 → EvD K (tVar 2) [some v, some .non, some x] H3 (.tuple [frD s, frD e]) := fun e3 => ed_var rfl (hx.mono e3)
    have r0 := Ex.refl H'
    refine q_when (b := false) (et_or (a := false) (b := false) (et_not (a := true) (et_B (ev_isi (ety_tup (ehx r0)) (.ty _) (kit_ty (by decide +kernel))))) fun _ => et_or (a := false) (b := false) (et_test (ev_is (ev_op (ev_lenT (ehx r0)) ev_c (rv_ne rfl)) rfl)) fun _ =>
      et_or (a := false) (b := false) (et_not (a := true) (et_B (ev_bl (ed_call (ead_cons (ed_ixT (ehx r0) ev_c rfl) ead_nil) ⟨s, rfl, h0, bs, rfl⟩)))) fun _ => et_not (a := true) (et_B (ev_bl (ed_call (ead_cons (ed_ixT (ehx r0) ev_c rfl) ead_nil) ⟨e, rfl, by grind, be, rfl⟩)))) (fun hb => by cases hb) fun _ H3 e3 => ?_
    refine q_when (b := false) (et_is (et_or (et_not (et_B (ev_bl (ed_call (ead_cons (ed_ixT (ehx e3) ev_c rfl) (ead_cons (ed_ixT (ehx e3) ev_c rfl) ead_nil)) (R_lt bs be))))) fun _ => et_B (ev_bl (ed_call (ead_cons ed_11 (ead_cons (ed_ixT (ehx e3) ev_c rfl) ead_nil)) (R_lt ((on1 1).bd (T := []) ⟨by decide, Nat.one_le_two_pow, fun _ h => absurd h (by simp)⟩) be)))) ?_) (fun hb => by cases hb) fun _ H4 e4 => ?_
    · rw [decide_eq_true hse, decide_eq_false (show ¬ (1 : Rat) < e by grind)]
      rfl
    refine q_when (b := false) (et_and (a := false) (b := false) (et_test (ev_op (ev_var rfl) ev_c (fun H5 _ Q' q => ⟨rfl, q H5 (Ex.refl H5)⟩))) fun h => by cases h) (fun hb => by cases hb) fun _ H5 e5 => ?_
    refine s_asgD (d := frD e) (ed_ixT (ehx ((e3.trans e4).trans e5)) ev_c rfl) fun v6 H6 e6 k6 => ?_
    exact ⟨v6, _, rfl, hE.trans (((e3.trans e4).trans e5).trans e6), fun h => absurd h (by decide)⟩
  · obtain ⟨x1, x2, rfl, hE, _⟩ := p
    exact s_ret (v := .bl true) ev_c fun H3 e3 => hQ _ H3 ((e02.trans hE).trans e3) (.bl true)
end
end Fk
end
section
set_option Elab.async false
set_option linter.all false
set_option maxRecDepth 100000
set_option maxHeartbeats 2000000
namespace Fk
open PySem PySem.Spec PyProof.Rows L2 Evl
theorem first_ex {α : Type} [DecidableEq α] : ∀ {l : List α} {x : α}, x ∈ l → ∃ j, l[j]? = some x ∧ (∀ (m : Nat) y, m < j → l[m]? = some y → y ≠ x) ∧ l.Perm (x :: l.eraseIdx j)
  | [], x, h => absurd h (by simp)
  | a :: r, x, h => by
    by_cases e : a = x
    · subst e
      exact ⟨0, rfl, fun m y hm => absurd hm (by omega), List.Perm.refl _⟩
    · have hr : x ∈ r := by
        rcases List.mem_cons.mp h with z | z
        · exact absurd z.symm e
        · exact z
      obtain ⟨j, h1, h2, h3⟩ := first_ex hr
      refine ⟨j + 1, by simpa using h1, fun m y hm hy => ?_, ?_⟩
      · cases m with
        | zero =>
          cases (Option.some.inj hy)
          exact e
        | succ m => exact h2 m y (by omega) (by simpa using hy)
      · show (a :: r).Perm (x :: a :: r.eraseIdx j)
        exact (h3.cons a).trans (List.Perm.swap x a _)
theorem map_eraseIdxG {α β : Type} (f : α → β) : ∀ (l : List α) (j : Nat), (l.eraseIdx j).map f = (l.map f).eraseIdx j
  | [], _ => rfl
  | _ :: _, 0 => rfl
  | a :: r, j + 1 => by
    show f a :: (r.eraseIdx j).map f = f a :: (r.map f).eraseIdx j
    rw [map_eraseIdxG f r j]
theorem spanD_inj {x y : Rat × Rat} : spanD x = spanD y ↔ x = y := by
  constructor
  · intro h
    have h : PyData.tuple [frD x.1, frD x.2] = PyData.tuple [frD y.1, frD y.2] := h
    simp only [PyData.tuple.injEq, List.cons.injEq, and_true] at h
    exact Prod.ext (frD_inj.mp h.1) (frD_inj.mp h.2)
  · intro h
    rw [h]
theorem chain_filter : ∀ {L : List Leaf} {a b : Rat}, Chain a L b → ∀ c, c < a → (L.map (·.2)).filter (fun x => decide (x.1 = c)) = []
  | [], _, _, _, _, _ => rfl
  | x :: r, a, b, ⟨h1, h2, h3⟩, c, hc => by
    rw [List.map_cons, List.filter_cons, if_neg (by
      intro q
      have := of_decide_eq_true q
      grind)]
    exact chain_filter h3 c (by grind)
theorem chain_one {x : Leaf} {r : List Leaf} {a b : Rat} (h : Chain a (x :: r) b) : ((x :: r).map (·.2)).filter (fun y => decide (y.1 = a)) = [x.2] := by
  obtain ⟨h1, h2, h3⟩ := h
  rw [List.map_cons, List.filter_cons, if_pos (decide_eq_true h1), chain_filter h3 a (by grind)]
section
variable {P : Program} {w : World} {K : PySem.W.Frag} {mg : Str → Option Value} {base : Heap} {H H' : Hp} {σ : L2.St} {te ta tb tl to : TE} {D : Ends} {tz : TS} {tt t : TT} {v : V} {d : PyData} {ds : List PyData}
abbrev lDealt : Stmt := top 44
abbrev nDealt : List Str := ["_law_pieces", "_law_many", "_law_point", "_law_spans", "_law_piece_here", "_law_ahead", "_law_span"]
theorem lc_dealt : FnScope nDealt ["_law_pieces", "_law_many"] (defScope lDealt) := ⟨rfl, rfl, rfl, by decide +kernel, rfl, by decide +kernel, by decide +kernel⟩
theorem hu65 {A : Around} {k : Nat} (hr : Room k A) : A.units + 65 < cLine := by have := hr.un; omega
def tTr (K : PySem.W.Frag) (ta : TE) : TT := fun σ H Q => ta σ H fun x H' => ∃ k, TruV K x H' k ∧ Q k H'
theorem et_truL {a : Addr} {xs : List V} (h : Ev ta σ H (.ref a)) (hx : SqL K H a xs) : EvT (tTr K ta) σ H (!xs.isEmpty) := fun H1 x Q q => h H1 x _ fun H2 x2 => ⟨_, Or.inl ⟨xs, ex_l (x.trans x2) hx, rfl⟩, q H2 x2⟩
/-- xs.remove(x) -/
theorem q_removeD {l : Addr} {ys : List V} {j : Nat} (hl : H l = some (.lst ys)) (hds : DpAll K H ys ds) (ho : Ev to σ H (.ref l)) (h : EvD K te σ H d) {n m : Nat} (hok : okD (n + 1) (.list ds) = true) (hokd : okD m d = true) (hj : ds[j]? = some d) (hno : ∀ (m : Nat) z, m < j → ds[m]? = some z → PyData.eqv z d = false) (heq : PyData.eqv d d = true)
    (k : ∀ H1, Ex H H1 → tz D σ (L2.upd H1 l (.lst (ys.eraseIdx j)))) (hn : n + 1 ≤ 64 := by decide) (hm : m ≤ 64 := by decide) : tSeq (tDrop (tBM K "list" (rRemoveD K) to (tCons te tNil))) tz D σ H := ho H (Ex.refl H) _ fun H1 e1 =>
  ⟨Or.inl ⟨rfl, ys, sq_of (e1 l _ hl)⟩, h H1 e1 _ fun v H2 e2 hv => ⟨l, ys, v, d, ds, j, d, rfl, rfl, (e1.trans e2) l _ hl, hds.mono (e1.trans e2), hv, okD_shaped hok hn, okD_shaped hokd hm, hj, heq, hno, k H2 (e1.trans e2)⟩⟩
/-- a dealing: a list of lists of one span each -/
def PiecesAt (K : PySem.W.Frag) (H : Hp) (pc : Addr) (als : List (Rat × Rat)) : Prop := ∃ vs, H pc = some (.lst vs) ∧ vs.length = als.length ∧ ∀ (i : Nat) x, als[i]? = some x → ∃ q y, vs[i]? = some (.ref q) ∧ H q = some (.lst [y]) ∧ Dp K H y (spanD x)
theorem PiecesAt.mono {pc : Addr} {als : List (Rat × Rat)} (e : Ex H H') (h : PiecesAt K H pc als) : PiecesAt K H' pc als := by
  obtain ⟨vs, h1, h2, h3⟩ := h
  refine ⟨vs, e _ _ h1, h2, fun i x hi => ?_⟩
  obtain ⟨q, y, k1, k2, k3⟩ := h3 i x hi
  exact ⟨q, y, k1, e _ _ k2, k3.mono e⟩
theorem dps_of : ∀ {vs : List V} {ds : List PyData}, vs.length = ds.length → (∀ (i : Nat) d, ds[i]? = some d → ∃ v, vs[i]? = some v ∧ Dp K H v d) → DpAll K H vs ds
  | [], [], _, _ => .nil
  | [], _ :: _, h, _ => by simp at h
  | _ :: _, [], h, _ => by simp at h
  | v :: vs, d :: ds, h, k => by
    obtain ⟨v', e, hd⟩ := k 0 d rfl
    cases (Option.some.inj e)
    exact .cons hd (dps_of (by simpa using h) fun i d hi => by
      obtain ⟨v', e, hd⟩ := k (i + 1) d (by simpa using hi)
      exact ⟨v', by simpa using e, hd⟩)
theorem PiecesAt.data {pc : Addr} {als : List (Rat × Rat)} (h : PiecesAt K H pc als) : Dp K H (.ref pc) (.list (als.map pieceD)) := by
  obtain ⟨vs, h1, h2, h3⟩ := h
  refine .lst (SqL.of h1) (dps_of (by rw [h2, List.length_map]) fun i d hd => ?_)
  obtain ⟨x, hx, rfl⟩ := map_get hd
  obtain ⟨q, y, k1, k2, k3⟩ := h3 i x hx
  exact ⟨.ref q, k1, .lst (SqL.of k2) (.one k3)⟩
def spDealt (K : PySem.W.Frag) : Sp := fun vs H Q _ => ∃ pc als L, vs = [.ref pc, .int ((als : List (Rat × Rat)).length : Int)] ∧ PiecesAt K H pc als ∧ als.length ≤ 8 ∧ als.Perm (L.map (·.2)) ∧ Chain 0 L 1 ∧ (∀ x ∈ als, SpanOk x) ∧ ∀ H', Ex H H' → Q (.bl true) H'
theorem ok_dealt {f : Addr} {fd : FuncData} (F : Fun K "_law_dealt" "_law_dealt" lDealt f fd) (Lp : Has P w K mg base "_law_piece" 3 ["_law_piece_here"] (spP K R_piece)) (mi : mg "isinstance" = none) (ml : mg "len" = none) (mL : mg "list" = none) (ma : mg "all" = none) :
    FnOk P w K mg base CX0 4 f fd ["_law_pieces", "_law_many"] (spDealt K) := by
  refine F.ok lc_dealt (fun vs H Q E h => by obtain ⟨pc, als, L, rfl, _⟩ := h; rfl) fun cdv A outer s0 H vs Q E hr h => ?_
  obtain ⟨pc, als, L, rfl, hP, h8, hperm, hch, hok, hQ⟩ := h
  refine ⟨_, pss_cons (ps_if (PW.pt (pw_or (pt_not (pt_val (pe_isi (pv 0) mi mL boot_list))) (pw_or (pt_cmpR op_ne (lenk K ml (pv 0)) (pv 1) (nomark _)) (pw_or1 (pt_not (pt_val (pe_callB (cr_all rfl) (by rfl) ma boot_all (pa1
        (pe_lc (own := [("_law_piece_here", 4)]) (g := gName 4) (tt := tYes) (by rfl) lc_dealt.nd (pi_list (pv 0)) (blkOk_by (own := [("_law_piece_here", 4)]) (N := nDealt) (sc := defScope lDealt) (by decide +kernel))
          (fun _ _ _ _ _ => pg_name (i := 4) lc_dealt.nd rfl (Or.inl rfl)) (fun _ _ _ _ _ => pts_nil) (fun _ _ _ _ _ => pe_callH Lp hr (pa1 (pv 4)))))))))))) (pss_one (ps_ret pe_bl)) pss_nil)
    (pss_cons (ps_set (i := 2) lc_dealt.nd rfl (.inr rfl) (pe_tup (pa2 pe_int pe_int)))
    (pss_cons (ps_set (i := 3) lc_dealt.nd rfl (.inl rfl) (pe_lst pa_nil))
    (pss_cons (ps_for PassesOwn.never rfl (pi_list (pv 0)) (pg_name (i := 4) lc_dealt.nd rfl (.inl rfl)) (pss_one (ps_set (i := 3) lc_dealt.nd rfl (.inl rfl) (pe_op op_cat (pv 3) (pv 4)))))
    (pss_cons (ps_while PassesOwn.never (pt_truth (pv 3) (by intro _; rfl))
      (pss_cons (ps_setLc (i := 5) (own := [("_law_span", 6)]) (g := gName 6) (by rfl) lc_dealt.nd rfl rfl (sw_true rfl rfl rfl (by decide +kernel)) (pi_list (pv 3)) (blkOk_by (own := [("_law_span", 6)]) (N := nDealt) (sc := defScope lDealt) (by decide +kernel))
        (fun _ _ _ _ _ => pg_name (i := 6) lc_dealt.nd rfl (Or.inl rfl)) (fun _ _ _ _ _ => pts_one (eqkT K hr (ixk K (pv 6) pe_int) (pv 2))) (fun _ _ _ _ _ => pv 6))
      (pss_cons (ps_if (pt_cmpR op_ne (lenk K ml (pv 5)) pe_int (nomark _)) (pss_one (ps_ret pe_bl)) pss_nil)
      (pss_cons (ps_expr (pe_bm PySem.F.plainAttrs_list PySem.F.slot_list_remove PySem.F.type_list_remove (mt_removeD (hu65 hr)) (pv 3) (pa1 (ixlk K (pv 5) pe_int))))
      (pss_one (ps_set (i := 2) lc_dealt.nd rfl (.inr rfl) (ixk K (ixlk K (pv 5) pe_int) pe_int)))))))
    (pss_one (ps_ret (pe_cmpR (op_eqD hr.units) (pv 2) (pe_tup (pa2 pe_int pe_int)) (nomark _)))))))), ?_⟩
  have hdat := hP.data
  obtain ⟨vs, hv1, hv2, hv3⟩ := id hP
  refine q_when (b := false) (et_or (a := false) (b := false) (et_not (a := true) (et_B (ev_isi (ety_lst (ed_var rfl hdat)) (.ty _) (kit_ty (by decide +kernel))))) fun _ => et_or (a := false) (b := false) (et_test (ev_is (ev_op (ev_lenL (ed_var rfl hdat)) (ev_var rfl) (rv_ne rfl)) (by rw [List.length_map]; simp))) fun _ =>
    et_is (et_not (et_B (ev_all (bs := (als.filter fun _ => true).map fun _ => true) ?_))) ?_) (fun hb => by cases hb) fun _ H1 e1 => ?_
  · rw [List.map_map]
    refine eld_lcT (n := 1) pieceD (fun _ => true) _ (ed_var rfl hdat) (by omega) (fun _ => rfl) (fun _ _ _ => rfl) fun x hx y H1 e1 hy => ⟨et_yes, fun _ => ed_call (ead_cons (ed_var rfl hy) ead_nil) ⟨x, rfl, hok x hx, rfl⟩⟩
  · simp
  refine q_asgD (K := K) (d := frD 0) ed_01 fun vp H2 e2 kp => ?_
  refine q_asgL (el_lst ea_nil (Nat.zero_le _)) fun sp0 H3 hsp0 e3 hsp => ?_
  have e02 := e1.trans e2
  have e03 := e02.trans e3
  refine q_forLn (K := K) (a := pc) (xs := vs) (ev_var rfl) (SqL.of (e03 _ _ hv1)) (fun i σ H' => ∃ sp ws x4, σ = [some (.ref pc), some (.int (als.length : Int)), some vp, some (.ref sp), x4, none, none] ∧ Ex H3 H' ∧ H sp = none ∧ H' sp = some (.lst ws) ∧ DpAll K H' ws ((als.take i).map spanD))
    (fun H4 e4 => ⟨sp0, [], none, rfl, e4, fresh_back e02 hsp0, e4 _ _ hsp, .nil⟩) (fun i σ' H' _ p => by obtain ⟨_, _, _, _, q, _⟩ := p; exact SqL.of ((e03.trans q) _ _ hv1)) (fun i x σ' H' hx p => ?_) fun σ' H' p => ?_
  · obtain ⟨sp, ws, x4, rfl, hE, hs0, hs, hds⟩ := p
    have hi : i < als.length := by
      rw [← hv2]
      exact (List.getElem?_eq_some_iff.mp hx).1
    obtain ⟨q, y, k1, k2, k3⟩ := hv3 i _ (List.getElem?_eq_getElem hi)
    obtain rfl : x = .ref q := Option.some.inj (hx.symm.trans k1)
    have hE0 := e03.trans hE
    have wl : ws.length = i := by rw [hds.len, List.length_map, List.length_take]; omega
    refine ⟨_, rfl, _, rfl, sp, q, ws, [y], rfl, rfl, hs, hE0 _ _ k2, sz_of (by rw [wl]; show i + 1 ≤ 100000; omega), fun p hp => ?_⟩
    refine ⟨p, ws ++ [y], _, rfl, hE.trans (Ex.new hp), fresh_back hE0 hp, upd_same, ?_⟩
    rw [List.take_add_one, List.getElem?_eq_getElem hi, List.map_append]
    exact (hds.mono (Ex.new hp)).app (.one ((k3.mono hE0).mono (Ex.new hp)))
  · obtain ⟨sp, ws, x4, rfl, hE, hs0, hs, hds⟩ := p
    rw [hv2, List.take_length] at hds
    refine q_while (fun m σ H' => ∃ sp ws rem LL pt c x4 x5 x6, σ = [some (.ref pc), some (.int (als.length : Int)), some pt, some (.ref sp), x4, x5, x6] ∧ Ex H H' ∧ H sp = none ∧ H' sp = some (.lst ws) ∧ DpAll K H' ws ((rem : List (Rat × Rat)).map spanD) ∧ Dp K H' pt (frD c) ∧ rem.Perm ((LL : List Leaf).map (·.2)) ∧ Chain c LL 1 ∧ rem.length ≤ 8 ∧ m = rem.length) _
      ⟨sp, ws, als, L, vp, 0, x4, none, none, rfl, e03.trans hE, hs0, hs, hds, kp.mono (e3.trans hE), hperm, hch, h8, rfl⟩ ?_
    rintro m σ' H4 ⟨sp, ws, rem, LL, pt, c, x4, x5, x6, rfl, hE4, hs0, hs, hds, hpt, hpm, hchn, hr8, rfl⟩
    have wl : ws.length = rem.length := by rw [hds.len, List.length_map]
    refine ⟨!ws.isEmpty, et_truL (ev_var rfl) (SqL.of hs), fun hb H5 e5 => ?_, fun hb H5 e5 => ?_⟩
    · have hne : rem ≠ [] := fun z => by
        rw [z] at wl
        have : ws = [] := List.length_eq_zero_iff.mp wl
        rw [this] at hb
        cases hb
      obtain ⟨x, r, rfl⟩ : ∃ x r, LL = x :: r := by
        cases LL with
        | nil => exact absurd hpm.eq_nil hne
        | cons x r => exact ⟨x, r, rfl⟩
      have hf : rem.filter (fun y => decide (y.1 = c)) = [x.2] := by
        have q := hpm.filter (fun y => decide (y.1 = c))
        rw [chain_one hchn] at q
        exact q.eq_singleton
      refine ⟨_, fun _ _ z => z, ?_⟩
      refine q_asgLD (ds := (rem.filter fun y => decide (y.1 = c)).map spanD) (eld_lcT (n := 2) spanD (fun y => decide (y.1 = c)) spanD (ed_var rfl (.lst (SqL.of (e5 _ _ hs)) (hds.mono e5))) (by omega) (fun _ => by rfl) (fun _ _ _ => rfl) fun y hy z H6 e6 hz => ⟨et_test (ev_eqD (n := 1) (m := 1) (p := y.1 = c) (ed_ixT (ed_var rfl hz) ev_c rfl) (ed_var rfl (hpt.mono (e5.trans e6))) rfl rfl frD_inj), fun _ => ed_var rfl hz⟩) fun ap as H6 hap e6 hal has => ?_
      rw [hf] at has
      have hdA : Dp K H6 (.ref ap) (.list [spanD x.2]) := .lst (SqL.of hal) has
      refine q_when (b := false) (et_test (ev_is (ev_op (ev_lenL (ed_var rfl hdA)) ev_c (rv_ne rfl)) rfl)) (fun hb => by cases hb) fun _ H7 e7 => ?_
      have e47 := (e5.trans e6).trans e7
      have hxm : x.2 ∈ rem := hpm.mem_iff.mpr (List.mem_map.mpr ⟨x, List.mem_cons_self .., rfl⟩)
      obtain ⟨j, j1, j2, j3⟩ := first_ex hxm
      have okrem : okD 3 (.list (rem.map spanD)) = true := by
        show (rem.map spanD).all (okD 2) = true
        rw [List.all_map]
        exact List.all_eq_true.mpr fun _ _ => rfl
      refine q_removeD (d := spanD x.2) (n := 2) (m := 2) (e47 _ _ hs) (hds.mono e47) (ev_var rfl) (ed_ixL (ed_var rfl (hdA.mono e7)) ev_c rfl) okrem rfl (j := j) (by rw [List.getElem?_map, j1]; rfl) (fun m z hm hz => ?_) ?_ fun H8 e8 => ?_
      · obtain ⟨y, hy, rfl⟩ := map_get hz
        rw [eqv_dec (n := 2) (m := 2) rfl rfl spanD_inj]
        exact decide_eq_false (j2 m y hm hy)
      · rw [eqv_dec (n := 2) (m := 2) rfl rfl spanD_inj]
        exact decide_eq_true rfl
      · have e48 := e47.trans e8
        have hs8 := e48 _ _ hs
        have apsp : ap ≠ sp := fun z => by
          rw [z, e5 _ _ hs] at hap
          cases hap
        have hdA2 : Dp K (L2.upd H8 sp (.lst (ws.eraseIdx j))) (.ref ap) (.list [spanD x.2]) := .lst (SqL.of (by rw [upd_ne apsp]; exact (e7.trans e8) _ _ hal)) (DpAll.upd hs8 (n := 2) rfl (has.mono (e7.trans e8)))
        refine s_asgD (d := frD x.2.2) (ed_ixT (ds := [frD x.2.1, frD x.2.2]) (ed_ixL (ed_var rfl hdA2) ev_c rfl) ev_c rfl) fun v9 H9 e9 k9 => ?_
        have jl := (List.getElem?_eq_some_iff.mp j1).1
        have lene : (rem.eraseIdx j).length = rem.length - 1 := by rw [List.length_eraseIdx, if_pos jl]
        refine ⟨rem.length - 1, by omega, sp, ws.eraseIdx j, rem.eraseIdx j, r, v9, x.2.2, _, _, _, rfl, (Ex.mut (hE4.trans e48) hs0).trans e9, hs0, e9 _ _ upd_same, ?_, k9, ?_, hchn.2.2, by omega, lene.symm⟩
        · refine DpAll.mono e9 (DpAll.upd hs8 (n := 2) ?_ ?_)
          · rw [List.all_map]
            exact List.all_eq_true.mpr fun _ _ => rfl
          · have q := (hds.mono e48).erase j
            rw [← map_eraseIdxG] at q
            exact q
        · exact (List.perm_cons x.2).mp (j3.symm.trans hpm)
    · have hwe : ws = [] := by
        cases ws with
        | nil => rfl
        | cons a b => cases hb
      have hre : rem = [] := by
        rw [hwe] at wl
        exact List.length_eq_zero_iff.mp wl.symm
      have hLL : LL = [] := by
        rw [hre] at hpm
        have := hpm.symm.eq_nil
        exact List.map_eq_nil_iff.mp this
      have hc1 : c = 1 := by
        rw [hLL] at hchn
        exact hchn
      refine s_ret (v := .bl true) (ev_is (ev_eqD (n := 1) (m := 1) (p := c = 1) (ed_var rfl (hpt.mono e5)) ed_11 rfl rfl frD_inj) (by rw [decide_eq_true hc1])) fun H6 e6 => hQ H6 ((hE4.trans e5).trans e6)
end
end Fk
end
section
set_option Elab.async false
set_option linter.all false
set_option maxRecDepth 100000
set_option maxHeartbeats 2000000
namespace Fk
open PySem PySem.Spec PyProof.Rows L2 Evl
section
variable {P : Program} {w : World} {K : PySem.W.Frag} {mg : Str → Option Value} {base : Heap} {H H' : Hp} {σ : L2.St} {te ta tb tl to : TE} {D : Ends} {tz : TS} {tt t : TT} {v : V} {d : PyData} {ds : List PyData}
abbrev lAllSteps : Stmt := top 45
abbrev nAllSteps : List Str := ["_law_script", "_law_many", "_law_told", "_law_k", "_law_cell", "_law_steps"]
theorem lc_allsteps : FnScope nAllSteps ["_law_script", "_law_many"] (defScope lAllSteps) := ⟨rfl, rfl, rfl, by decide +kernel, rfl, by decide +kernel, by decide +kernel⟩
def toldD (Ts : List Steps) : PyData := .list (Ts.map stepsD)
def spAll (K : PySem.W.Frag) : Sp := fun vs H Q _ => ∃ (a : Addr) (ns : List Int) (n : Nat), vs = [.ref a, .int (n : Int)] ∧ Dp K H (.ref a) (.list (ns.map PyData.int)) ∧ n ≤ 8 ∧ ∀ (Ts : List Steps) p H', Ts.length = n → (∀ T ∈ Ts, Good T) → Ex H H' → Dp K H' (.ref p) (toldD Ts) → Q (.ref p) H'
theorem ok_allsteps {f : Addr} {fd : FuncData} (F : Fun K "_law_all_steps" "_law_all_steps" lAllSteps f fd) (Lc : Has P w K mg base "_law_cell_at" 1 ["_law_script", "_law_k"] (spP K R_cell)) (Ls : Has P w K mg base "_law_steps_by" 2 ["_law_cell"] (spStepsBy K)) (mr : mg "range" = none) :
    FnOk P w K mg base CX0 3 f fd ["_law_script", "_law_many"] (spAll K) := by
  refine F.ok lc_allsteps (fun vs H Q E h => by obtain ⟨a, ns, n, rfl, _⟩ := h; rfl) fun cdv A outer s0 H vs Q E hr h => ?_
  obtain ⟨a, ns, n, rfl, hA, n8, hQ⟩ := h
  refine ⟨_, pss_cons (ps_set (i := 2) lc_allsteps.nd rfl (.inl rfl) (pe_lst pa_nil))
    (pss_cons (ps_for PassesOwn.never rfl (pi_range1 (by rfl) mr (pa1 (pv 1))) (pg_name (i := 3) lc_allsteps.nd rfl (.inl rfl))
      (pss_cons (ps_set (i := 4) lc_allsteps.nd rfl (.inl rfl) (pe_op op_add (pe_callH (Lc.mono (k := 2) (by decide)) hr (pa2 (pv 0) (pe_op op_add pe_int (pe_op op_mod (pv 3) pe_int)))) (pe_op op_mul pe_int (pv 3))))
      (pss_cons (ps_if (pt_cmpR op_gt (pv 1) pe_int (nomark _)) (pss_one (ps_set (i := 4) lc_allsteps.nd rfl (.inl rfl) (pe_op op_add (pe_op op_mul (pe_op op_fdiv (pv 4) pe_int) pe_int) (pe_op op_mod (pv 4) pe_int)))) pss_nil)
      (pss_cons (ps_set (i := 5) lc_allsteps.nd rfl (.inl rfl) (pe_callH Ls hr (pa1 (pv 4))))
      (pss_cons (ps_if (PW.pt (pw_and (pt_cmpR op_gt (pv 3) pe_int (nomark _)) (pw_and1 (pt_cmpR op_eq (pe_op op_mod (pe_op op_fdiv (pe_callH (Lc.mono (k := 2) (by decide)) hr (pa2 (pv 0) pe_int)) (pe_op op_add (pv 3) pe_int)) pe_int) pe_int (nomark _))))) (pss_one (ps_set (i := 5) lc_allsteps.nd rfl (.inl rfl) (ixlk K (pv 2) (pe_op op_sub (pv 3) pe_int)))) pss_nil)
      (pss_one (ps_expr (pe_bm PySem.F.plainAttrs_list PySem.F.slot_list_append PySem.F.type_list_append mt_append (pv 2) (pa1 (pv 5))))))))))
    (pss_one (ps_ret (pv 2)))), ?_⟩
  refine q_asgL (el_lst ea_nil (Nat.zero_le _)) fun tp H1 htp0 e1 htp => ?_
  refine q_forR1 (n := (n : Int)) (ea_cons (ev_var rfl) ea_nil) ⟨by omega, by omega⟩ (fun i σ H' => ∃ (Ts : List Steps) (ws : List V) (x3 x4 x5 : Option V), σ = [some (.ref a), some (.int (n : Int)), some (.ref tp), x3, x4, x5] ∧ Ex H H' ∧ H' tp = some (.lst ws) ∧ Ts.length = i ∧ (∀ T ∈ Ts, Good T) ∧ DpAll K (hid tp H') ws (Ts.map stepsD))
    (fun H2 e2 => ⟨[], [], none, none, none, rfl, e1.trans e2, e2 _ _ htp, rfl, fun _ h => absurd h (by simp), .nil⟩) (fun i σ' H' hi p => ?_) fun σ' H' p => ?_
  · obtain ⟨Ts, ws, x3, x4, x5, rfl, hE, ht, hlen, hgood, hds⟩ := p
    have wl : ws.length = i := by rw [hds.len, List.length_map, hlen]
    have r6 := Int.emod_nonneg (i : Int) (show (6 : Int) ≠ 0 by decide)
    refine q_asg (v := .int (cellAt ns (1 + (i : Int) % 6) + 31 * (i : Int))) (ev_op (ev_int (ed_call (ead_cons (ed_var rfl (hA.mono hE)) (ead_cons (ed_int (ev_op ev_c (ev_op (ev_var rfl) ev_c (rv_I (by decide))) rv_I0)) ead_nil)) ⟨ns, _, rfl, by omega, rfl⟩)) (ev_op ev_c (ev_var rfl) (rv_I (.inl ⟨by decide, by decide⟩))) rv_I0) fun H2 e2 => ?_
    generalize hc1 : cellAt ns (1 + (i : Int) % 6) + 31 * (i : Int) = c1
    obtain ⟨c2, hc2⟩ : ∃ c2 : Int, c2 = if (3 : Int) < (n : Int) then c1 / 80 * 80 + c1 % 20 else c1 := ⟨_, rfl⟩
    refine q_ifAsg (v := .int c2) (b := decide ((3 : Int) < (n : Int))) (et_test (ev_op (ev_var rfl) ev_c rv_I0)) (fun hb => ?_) (fun hb => ?_) fun H3 e3 => ?_
    · refine ev_is (ev_op (ev_op (ev_op (ev_var rfl) ev_c (rv_I ⟨by decide, by decide⟩)) ev_c (rv_I (.inr ⟨by decide, by decide⟩))) (ev_op (ev_var rfl) ev_c (rv_I (by decide))) rv_I0) ?_
      rw [hc2, if_pos (of_decide_eq_true hb)]
    · rw [hc2, if_neg (of_decide_eq_false hb)]
      rfl
    have hE3 := (hE.trans e2).trans e3
    have ht3 := (e2.trans e3) _ _ ht
    refine ⟨_, rfl, c2, rfl, fun T p ws' H4 g hp0 e4 hp hpd => ?_⟩
    have ptp : p ≠ tp := fun q => by
      rw [q, ht3] at hp0
      cases hp0
    have ht4 := e4 _ _ ht3
    have hE4 := hE3.trans e4
    have e04 := (e2.trans e3).trans e4
    have hnew : Dp K (hid tp H4) (.ref p) (stepsD T) := .lst (SqL.of (by rw [hid_ne ptp]; exact hp)) (dps_keepT (sqt_hid ht4) 2 _ _ (by
      rw [List.all_map]
      exact List.all_eq_true.mpr fun _ _ => rfl) hpd)
    have fin : ∀ (x : V) (T : Steps) (H5 : Hp) (D : Ends), Good T → Ex H4 H5 → Dp K (hid tp H5) x (stepsD T) → (∀ σ H', (∃ (Ts : List Steps) (ws : List V) (x3 x4 x5 : Option V), σ = [some (.ref a), some (.int (n : Int)), some (.ref tp), x3, x4, x5] ∧ Ex H H' ∧ H' tp = some (.lst ws) ∧ Ts.length = i + 1 ∧ (∀ T ∈ Ts, Good T) ∧ DpAll K (hid tp H') ws (Ts.map stepsD)) → D.nx σ H') →
        tDrop (tBM K "list" rAppend (tVar 2) (tCons (tVar 5) tNil)) D [some (.ref a), some (.int (n : Int)), some (.ref tp), some (.int (i : Int)), some (.int c2), some x] H5 := fun x T H5 D gT e5 hx hD => by
      refine s_app (e5 _ _ ht4) (ev_var rfl) (ev_var rfl) (by omega) fun H6 e6 => hD _ _ ?_
      refine ⟨Ts ++ [T], ws ++ [x], _, _, _, rfl, Ex.mut ((hE4.trans e5).trans e6) (fresh_back (Ex.refl H) htp0), upd_same, by rw [List.length_append, hlen]; rfl, fun z hz => ?_, ?_⟩
      · rcases List.mem_append.mp hz with hz | hz
        · exact hgood z hz
        · rw [List.mem_singleton] at hz
          rw [hz]
          exact gT
      · rw [hid_upd, List.map_append]
        exact (hds.mono (hid_mono ((e04.trans e5).trans e6))).app (.one (hx.mono (hid_mono e6)))
    refine q_when (b := decide ((0 : Int) < (i : Int)) && decide (V.int (cellAt ns 7 / ((i : Int) + 1) % 4) = V.int 1)) (et_and (et_test (ev_op (ev_var rfl) ev_c rv_I0)) fun _ => et_test (ev_op (ev_op (ev_op (ev_int (ed_call (ead_cons (ed_var rfl (hA.mono hE4)) (ead_cons (ed_int ev_c) ead_nil)) ⟨ns, 7, rfl, by decide, rfl⟩)) (ev_op (ev_var rfl) ev_c rv_I0) (rv_I ⟨by omega, by omega⟩)) ev_c (rv_I (by decide))) ev_c (rv_eq rfl))) (fun hb H5 e5 => ?_) fun hb H5 e5 => ?_
    · rw [Bool.and_eq_true] at hb
      have i0 : (0 : Int) < (i : Int) := of_decide_eq_true hb.1
      have hil : i - 1 < Ts.length := by omega
      obtain ⟨x, hx, hxd⟩ := hds.get (j := i - 1) (d := stepsD Ts[i - 1]) (by rw [List.getElem?_map, List.getElem?_eq_getElem hil]; rfl)
      refine s_asg (v := x) (ev_op (ev_var rfl) (ev_op (ev_var rfl) ev_c rv_I0) (rv_ixL (K := K) (SqL.of (e5 _ _ ht4)) (at_ofG (j := i - 1) (by omega) hx))) fun H6 e6 => ?_
      exact fin x Ts[i - 1] H6 _ (hgood _ (List.getElem_mem hil)) (e5.trans e6) (hxd.mono (hid_mono ((e04.trans e5).trans e6))) fun _ _ z => z
    · exact fin (.ref p) T H5 _ g e5 (hnew.mono (hid_mono e5)) fun _ _ z => z
  · obtain ⟨Ts, ws, x3, x4, x5, rfl, hE, ht, hlen, hgood, hds⟩ := p
    rw [Int.toNat_natCast] at hlen
    refine ⟨_, rfl, hQ Ts tp H' hlen hgood hE (.lst (SqL.of ht) (hds.mono hid_ex))⟩
end
end Fk
end
section
set_option Elab.async false
set_option linter.all false
set_option maxRecDepth 100000
set_option maxHeartbeats 2000000
namespace Fk
open PySem PySem.Spec PyProof.Rows L2 Evl
theorem num_den (q : Rat) : ((q.num : Int) : Rat) = q * ((q.den : Nat) : Rat) := by
  have h : ((q.den : Nat) : Rat) ≠ 0 := by
    have := Rat.natCast_pos.mpr (Nat.pos_of_ne_zero q.den_nz)
    grind
  have e : q = (q.num : Rat) / (q.den : Rat) := by
    have := low_self q
    rw [Rat.divInt_eq_div] at this
    exact this.symm
  have e2 := Rat.div_mul_cancel (a := (q.num : Rat)) h
  rw [← e] at e2
  exact e2.symm
theorem castX (a A : Rat) (h m : Nat) : ((a.num * (A.den : Int) * (m : Int) - (h : Int) * A.num * (a.den : Int) : Int) : Rat) = (a * (m : Rat) - (h : Rat) * A) * (((a.den : Nat) : Rat) * ((A.den : Nat) : Rat)) := by
  rw [Rat.intCast_sub, Rat.intCast_mul, Rat.intCast_mul, Rat.intCast_mul, Rat.intCast_mul, num_den a, num_den A, Rat.intCast_natCast, Rat.intCast_natCast, Rat.intCast_natCast, Rat.intCast_natCast]
  grind
theorem dd_pos (a A : Rat) : (0 : Rat) < ((a.den : Nat) : Rat) * ((A.den : Nat) : Rat) := Rat.mul_pos (Rat.natCast_pos.mpr (Nat.pos_of_ne_zero a.den_nz)) (Rat.natCast_pos.mpr (Nat.pos_of_ne_zero A.den_nz))
theorem sgn_ge {a A : Rat} {h m : Nat} (q : (h : Rat) * A ≤ a * (m : Rat)) : 0 ≤ a.num * (A.den : Int) * (m : Int) - (h : Int) * A.num * (a.den : Int) := by
  have c := castX a A h m
  have p : (0 : Rat) ≤ (a * (m : Rat) - (h : Rat) * A) * (((a.den : Nat) : Rat) * ((A.den : Nat) : Rat)) := Rat.mul_nonneg (by grind) (Rat.le_of_lt (dd_pos a A))
  rw [← c] at p
  exact Rat.intCast_nonneg.mp p
theorem sgn_le {a A : Rat} {h m : Nat} (q : a * (m : Rat) ≤ (h : Rat) * A) : a.num * (A.den : Int) * (m : Int) - (h : Int) * A.num * (a.den : Int) ≤ 0 := by
  have c := castX a A h m
  have p : (a * (m : Rat) - (h : Rat) * A) * (((a.den : Nat) : Rat) * ((A.den : Nat) : Rat)) ≤ 0 := by
    have := Rat.mul_nonneg (show (0 : Rat) ≤ (h : Rat) * A - a * (m : Rat) by grind) (Rat.le_of_lt (dd_pos a A))
    grind
  rw [← c] at p
  exact Rat.intCast_nonpos.mp p
theorem sgn_eq {a A : Rat} {h m : Nat} : a.num * (A.den : Int) * (m : Int) - (h : Int) * A.num * (a.den : Int) = 0 ↔ a * (m : Rat) = (h : Rat) * A := by
  constructor
  · intro q
    have c := castX a A h m
    rw [q] at c
    have z : (a * (m : Rat) - (h : Rat) * A) * (((a.den : Nat) : Rat) * ((A.den : Nat) : Rat)) = 0 := c.symm
    rcases Rat.mul_eq_zero.mp z with y | y
    · grind
    · have := dd_pos a A
      grind
  · intro q
    have c1 := sgn_ge (a := a) (A := A) (h := h) (m := m) (by grind)
    have c2 := sgn_le (a := a) (A := A) (h := h) (m := m) (by grind)
    omega
section
variable {P : Program} {w : World} {K : PySem.W.Frag} {mg : Str → Option Value} {base : Heap} {H H' : Hp} {σ : L2.St} {te ta tb tl to : TE} {D : Ends} {tz : TS} {tt t : TT} {v : V} {d : PyData} {ds : List PyData}
abbrev lGroup : Stmt := top 46
abbrev nGroup : List Str := ["_law_told", "_law_group", "_law_found", "_law_half", "_law_start", "_law_end", "_law_point", "_law_just", "_law_at", "_law_steps", "_law_all_of_it", "_law_ahead", "_law_mine", "_law_less_here", "_law_firsts", "_law_others", "_law_taker"]
theorem lc_group : FnScope nGroup ["_law_told", "_law_group", "_law_found"] (defScope lGroup) := ⟨rfl, rfl, rfl, by decide +kernel, rfl, by decide +kernel, by decide +kernel⟩
theorem pg_tupk {X : Cx} (K : PySem.W.Frag) {es : List Expr} {k : Nat} {t : TGs} {n : Nat} {pos : Pos} (h : PGs X es t) (hn : (assignEach es X.env).length = n := by rfl) (hst : (assignEach es X.env).findIdx? (·.1) = none := by rfl) (hc : X.calm = true := by rfl) (hK : X.K = K := by rfl) : PG X (.Tuple es k pos) (gTup K n t) := by
  subst hK
  subst hn
  exact pg_tup hc h rfl hst
/-- [e for a, b in l if t]: elements without lists -/
theorem eld_lc2 {α : Type} {xs : List α} (a1 a2 : α → PyData) {j1 j2 : Nat} {vs : List Nat} {n : Nat} (p : α → Bool) (g : α → PyData) (h : EvD K tl σ H (.list (xs.map fun x => .tuple [a1 x, a2 x]))) (hz : xs.length ≤ 40000) (hw : ∀ x y, wipe (((wipe σ vs).set j1 (some x)).set j2 (some y)) vs = wipe σ vs) (hn : ∀ x ∈ xs, p x = true → nlD n (g x) = true)
    (hb : ∀ x ∈ xs, ∀ v v' H1, Ex H H1 → Dp K H1 v (a1 x) → Dp K H1 v' (a2 x) → EvT tt (((wipe σ vs).set j1 (some v)).set j2 (some v')) H1 (p x) ∧ (p x = true → EvD K te (((wipe σ vs).set j1 (some v)).set j2 (some v')) H1 (g x))) :
    EvLD K (tLc (iList K tl) (gTup K 2 (gCons (gName j1) (gCons (gName j2) gNil))) tt te vs) σ H ((xs.filter p).map g) := fun H0 e Q q =>
  h H0 e _ fun v H1 e1 hv => by
    obtain ⟨b, ws, rfl, hs, hds⟩ := hv.lst_inv
    have hlen : ws.length = xs.length := by rw [hds.len, List.length_map]
    refine ⟨b, rfl, ⟨ws, hs⟩, fun Dl hD => lc_list (xs := ws) (Cd K H1 Dl fun i => ((xs.take i).filter p).map g) ⟨hD, Ex.new hD, [], upd_same, .nil⟩ (fun i H' _ c => ex_l c.2.1 hs) (fun i x H' hx c => ?_) fun H' c => ?_⟩
    · obtain ⟨d, hd1, hd2⟩ := hds.getV hx
      obtain ⟨y, hy, rfl⟩ := map_get hd1
      have hm := List.mem_of_getElem? hy
      have hi := (List.getElem?_eq_some_iff.mp hy).1
      obtain ⟨c1, c2, acc, c3, c4⟩ := c
      refine gtup2 (hd2.mono c2) fun z1 z2 k1 k2 => ⟨hw z1 z2, ?_⟩
      obtain ⟨ht, he⟩ := hb y hm z1 z2 H' ((e.trans e1).trans c2) k1 k2
      refine ht H' (Ex.refl H') _ fun H3 e3 => ?_
      have hout : ((xs.take (i + 1)).filter p).map g = ((xs.take i).filter p).map g ++ (if p y = true then [g y] else []) := by
        rw [filter_take hy, List.map_append]
        congr 1
        split <;> rfl
      cases hp : p y with
      | true =>
        refine he hp H3 e3 _ fun z H4 e4 hz4 => ?_
        have c34 := e4 _ _ (e3 _ _ c3)
        refine ⟨acc, c34, sz_lt ?_, c1, Ex.mut ((c2.trans e3).trans e4) c1, _, upd_same, ?_⟩
        · rw [c4.len]
          have l1 := List.length_filter_le p (xs.take i)
          rw [List.length_map]
          have l2 := List.length_take_le i xs
          omega
        · show DpAll K (hid Dl (L2.upd H4 Dl _)) _ (((xs.take (i + 1)).filter p).map g)
          rw [hid_upd, hout, if_pos hp]
          exact (c4.mono (hid_mono (e3.trans e4))).app (.one (hz4.hid c34 (hn y hm hp)))
      | false =>
        refine ⟨c1, c2.trans e3, acc, e3 _ _ c3, ?_⟩
        show DpAll K _ _ (((xs.take (i + 1)).filter p).map g)
        rw [hout, if_neg (by rw [hp]; decide), List.append_nil]
        exact c4.mono (hid_mono e3)
    · obtain ⟨c1, c2, acc, c3, c4⟩ := c
      simp only [hlen, List.take_length] at c4
      exact q Dl acc H' (fresh_back e1 c1) (e1.trans c2) c3 (c4.mono hid_ex)
/-- max(a) < min(b) -/
theorem ev_maxmin {as bs : List Int} {va vb : V} {i j : Nat} (ha : σ[i]? = some (some va)) (hb : σ[j]? = some (some vb)) (da : Dp K H va (.list (as.map PyData.int))) (db : Dp K H vb (.list (bs.map PyData.int))) (h1 : as ≠ []) (h2 : bs ≠ []) (h : ∀ a ∈ as, ∀ b ∈ bs, a < b) :
    Ev (tOp (rI0 fun i j => .bl (decide (i < j))) (tCB (rMax K) (tCons (tVar i) tNil)) (tCB (rMin K) (tCons (tVar j) tNil))) σ H (.bl true) := fun H1 x Q q => by
  obtain ⟨p, ps, rfl, p1, p2⟩ := (da.mono x).lst_inv
  obtain ⟨r, rs, rfl, r1, r2⟩ := (db.mono x).lst_inv
  obtain rfl := dps_ints p2
  obtain rfl := dps_ints r2
  refine ⟨_, ha, p, as, rfl, p1, List.length_pos_iff.mpr h1, fun m hm _ => ⟨_, hb, r, bs, rfl, r1, List.length_pos_iff.mpr h2, fun m' hm' _ => ⟨m, m', rfl, rfl, ?_⟩⟩⟩
  have e : decide (m < m') = true := decide_eq_true (h m hm m' hm')
  show Q (V.bl (decide (m < m'))) H1
  rw [e]
  exact q H1 (Ex.refl H1)
def leafsD (L : List Leaf) : PyData := .list (L.map fun x => .int (x.1 : Int))
theorem boot_max : bootBuiltins "max" = some (.builtin "max") := by decide +kernel
theorem boot_min : bootBuiltins "min" = some (.builtin "min") := by decide +kernel
/-- where the leaves stand: their tastes, their pieces -/
structure LeafOk (Ts : List Steps) (als : List (Rat × Rat)) (x : Leaf) : Prop where
  lt : x.1 < Ts.length
  at_ : als[x.1]? = some x.2
  grid : ∃ D', 0 < D' ∧ D' ≤ 2 ^ 100 ∧ On D' x.2.1 ∧ On D' x.2.2
def R_group : List PyData → PyData → Prop := fun ds d => ∃ Ts als LG, ds = [toldD Ts, leafsD LG, .list ((als : List (Rat × Rat)).map pieceD)] ∧ 2 ≤ LG.length ∧ LG.length ≤ 8 ∧ (∀ T ∈ Ts, Good T) ∧ (∀ x ∈ LG, LeafOk Ts als x) ∧ GroupR Ts LG ∧ d = .bool true
theorem ok_group {f : Addr} {fd : FuncData} (F : Fun K "_law_group_right" "_law_group_right" lGroup f fd) (La : Has P w K mg base "_law_area" 3 ["_law_steps", "_law_start", "_law_end"] (spP K R_larea)) (ml : mg "len" = none) (mr : mg "range" = none) (mM : mg "max" = none) (mm : mg "min" = none) :
    FnOk P w K mg base CX0 4 f fd ["_law_told", "_law_group", "_law_found"] (spP K R_group) := by
  refine okP F lc_group (fun ds d h => by obtain ⟨Ts, als, LG, rfl, _⟩ := h; rfl) fun cdv A outer s0 H vs Q E ds d hr hv hR hQ => ?_
  obtain ⟨Ts, als, LG, rfl, l2, l8, good, hok, hG, rfl⟩ := hR
  obtain ⟨vT, vg, vf, rfl, hvT, hvg, hvf⟩ := dps3 hv
  refine ⟨_, pss_cons (ps_set (i := 3) lc_group.nd rfl (.inl rfl) (pe_op op_fdiv (lenk K ml (pv 1)) pe_int))
    (pss_cons (ps_set (i := 4) lc_group.nd rfl (.inl rfl) (ixk K (ixlk K (ixlk K (pv 2) (ixlk K (pv 1) pe_int)) pe_int) pe_int))
    (pss_cons (ps_set (i := 5) lc_group.nd rfl (.inl rfl) (ixk K (ixlk K (ixlk K (pv 2) (ixlk K (pv 1) (pe_op op_sub (lenk K ml (pv 1)) pe_int))) pe_int) pe_int))
    (pss_cons (ps_set (i := 6) lc_group.nd rfl (.inl rfl) (ixk K (ixlk K (ixlk K (pv 2) (ixlk K (pv 1) (pe_op op_sub (pv 3) pe_int))) pe_int) pe_int))
    (pss_cons (ps_set (i := 7) lc_group.nd rfl (.inl rfl) (pe_lst pa_nil))
    (pss_cons (ps_for PassesOwn.never rfl (pi_range1 (by rfl) mr (pa1 (lenk K ml (pv 1)))) (pg_name (i := 8) lc_group.nd rfl (.inl rfl))
      (pss_cons (ps_set (i := 9) lc_group.nd rfl (.inl rfl) (ixlk K (pv 0) (ixlk K (pv 1) (pv 8))))
      (pss_cons (ps_set (i := 10) lc_group.nd rfl (.inl rfl) (pe_callH La hr (pa_cons (pv 9) (pa_cons (pv 4) (pa_cons (pv 5) pa_nil)))))
      (pss_cons (ps_set (i := 11) lc_group.nd rfl (.inl rfl) (pe_callH La hr (pa_cons (pv 9) (pa_cons (pv 4) (pa_cons (pv 6) pa_nil)))))
      (pss_cons (ps_set (i := 12) lc_group.nd rfl (.inl rfl) (pe_op op_mulW (pe_op op_mulW (ixk K (pv 11) pe_int) (ixk K (pv 10) pe_int)) (lenk K ml (pv 1))))
      (pss_cons (ps_set (i := 13) lc_group.nd rfl (.inl rfl) (pe_op op_sub (pv 12) (pe_op op_mulW (pe_op op_mulW (pv 3) (ixk K (pv 10) pe_int)) (ixk K (pv 11) pe_int))))
      (pss_cons (ps_if (PW.pt (pw_or (PW.pt (pw_and (pt_cmpR op_lt (pv 8) (pv 3) (nomark _)) (pw_and1 (pt_cmpR op_lt (pv 13) pe_int (nomark _))))) (pw_or1 (PW.pt (pw_and (pt_cmpR op_ge (pv 8) (pv 3) (nomark _)) (pw_and1 (pt_cmpR op_gt (pv 13) pe_int (nomark _)))))))) (pss_one (ps_ret pe_bl)) pss_nil)
      (pss_one (ps_if (pt_cmpR op_eq (pv 13) pe_int (nomark _)) (pss_one (ps_expr (pe_bm PySem.F.plainAttrs_list PySem.F.slot_list_append PySem.F.type_list_append mt_append (pv 7) (pa1 (pe_tup (pa2 (ixlk K (pv 1) (pv 8)) (pe_cmpR op_lt (pv 8) (pv 3) (nomark _)))))))) pss_nil)))))))))
    (pss_cons (ps_setLc (i := 14) (own := [("_law_taker", 16), ("_law_mine", 12)]) (g := gTup K 2 (gCons (gName 16) (gCons (gName 12) gNil))) (by rfl) lc_group.nd rfl rfl (sw_true rfl rfl rfl (by decide +kernel)) (pi_list (pv 7)) (blkOk_by (own := [("_law_taker", 16), ("_law_mine", 12)]) (N := nGroup) (sc := defScope lGroup) (by decide +kernel))
        (fun _ _ _ _ _ => pg_tupk K (pgs_cons (pg_name (i := 16) lc_group.nd rfl (Or.inl rfl)) (pgs_cons (pg_name (i := 12) lc_group.nd rfl (Or.inl rfl)) pgs_nil))) (fun _ _ _ _ _ => pts_one (pt_val (pv 12))) (fun _ _ _ _ _ => pv 16))
    (pss_cons (ps_setLc (i := 15) (own := [("_law_taker", 16), ("_law_mine", 12)]) (g := gTup K 2 (gCons (gName 16) (gCons (gName 12) gNil))) (by rfl) lc_group.nd rfl rfl (sw_true rfl rfl rfl (by decide +kernel)) (pi_list (pv 7)) (blkOk_by (own := [("_law_taker", 16), ("_law_mine", 12)]) (N := nGroup) (sc := defScope lGroup) (by decide +kernel))
        (fun _ _ _ _ _ => pg_tupk K (pgs_cons (pg_name (i := 16) lc_group.nd rfl (Or.inl rfl)) (pgs_cons (pg_name (i := 12) lc_group.nd rfl (Or.inl rfl)) pgs_nil))) (fun _ _ _ _ _ => pts_one (pt_not (pt_val (pv 12)))) (fun _ _ _ _ _ => pv 16))
    (pss_one (ps_ret (pe_and (pe_cmpR (op_neD hr.units) (pv 14) (pe_lst pa_nil) (nomark _)) (pe_one (pe_or (pe_cmpR (op_eqD hr.units) (pv 15) (pe_lst pa_nil) (nomark _)) (pe_one (pe_cmpR op_lt (pe_callB (cr_max rfl) (by rfl) mM boot_max (pa1 (pv 14))) (pe_callB (cr_min rfl) (by rfl) mm boot_min (pa1 (pv 15))) (nomark _))))))))))))))), ?_⟩
  obtain ⟨x, y, z, hx0, hy0, hz0, hlt, sides⟩ := hG
  have hxm := List.mem_of_getElem? hx0
  have hym := List.mem_of_getElem? hy0
  have hzm := List.mem_of_getElem? hz0
  generalize hm : LG.length = m at *
  generalize hh : m / 2 = h at *
  -- a grid for the group's three points
  obtain ⟨D, D0, D1, os, op, oe⟩ : ∃ D, 0 < D ∧ D ≤ 2 ^ 300 ∧ On D x.2.1 ∧ On D y.2.2 ∧ On D z.2.2 := by
    obtain ⟨Da, a0, a1, a2, _⟩ := (hok x hxm).grid
    obtain ⟨Db, b0, b1, _, b2⟩ := (hok y hym).grid
    obtain ⟨Dc, c0, c1, _, c2⟩ := (hok z hzm).grid
    refine ⟨Da * Db * Dc, Nat.mul_pos (Nat.mul_pos a0 b0) c0, ?_, (a2.up Db).up Dc, ?_, ?_⟩
    · refine Nat.le_trans (Nat.mul_le_mul (Nat.mul_le_mul a1 b1) c1) ?_
      rw [← Nat.pow_add, ← Nat.pow_add]
      exact Nat.pow_le_pow_right (by decide) (by decide)
    · have q := (b2.up Da).up Dc
      rw [Nat.mul_comm Db Da] at q
      exact q
    · have q := c2.up (Da * Db)
      rw [Nat.mul_comm Dc] at q
      exact q
  generalize hs' : x.2.1 = s at *
  generalize hp' : y.2.2 = p at *
  generalize he' : z.2.2 = e at *
  have grid : ∀ T ∈ Ts, ∃ G, GT G T ∧ On G s ∧ On G p ∧ On G e := fun T hT => by
    obtain ⟨P, P0, P1, P2⟩ := (good T hT).grid
    have up : ∀ q, On D q → On (P * D) q := fun q hq => by
      have := hq.up P
      rw [Nat.mul_comm D P] at this
      exact this
    refine ⟨P * D, ⟨Nat.mul_pos P0 D0, ?_, fun x hx => (P2 x hx).up D⟩, up s os, up p op, up e oe⟩
    refine Nat.le_trans (Nat.mul_le_mul (show P ≤ 2 ^ 10 by omega) D1) ?_
    rw [← Nat.pow_add]
    exact Nat.pow_le_pow_right (by decide) (by decide)
  have evlen : ∀ {H1 : Hp} {σ : L2.St}, Ex H H1 → σ[1]? = some (some vg) → Ev (tCB (rLenS K) (tCons (tVar 1) tNil)) σ H1 (.int (m : Int)) := fun e1 s1 => ev_is (ev_lenL (ed_var s1 (hvg.mono e1))) (by rw [List.length_map, hm])
  have edg : ∀ {H1 : Hp} {σ : L2.St} {te : TE} {i : Nat} {u : Leaf} {n : Int}, Ex H H1 → σ[1]? = some (some vg) → Ev te σ H1 (.int n) → n = (i : Int) → LG[i]? = some u → EvD K (tOp (rIxL K) (tVar 1) te) σ H1 (.int (u.1 : Int)) := fun e1 s1 he hn hu =>
    ed_ixL (ed_var s1 (hvg.mono e1)) he (at_ofG hn (by rw [List.getElem?_map, hu]; rfl))
  have edf : ∀ {H1 : Hp} {σ : L2.St} {te : TE} {u : Leaf}, Ex H H1 → σ[2]? = some (some vf) → EvD K te σ H1 (.int (u.1 : Int)) → u ∈ LG → EvD K (tOp (rIxL K) (tOp (rIxL K) (tVar 2) te) (tC (.int 0))) σ H1 (.tuple [frD u.2.1, frD u.2.2]) := fun {H1 σ te u} e1 s1 he hu =>
    ed_ixL (ds := [spanD u.2]) (ed_ixL (ed_var s1 (hvf.mono e1)) (ev_int he) (at_ofG (j := u.1) rfl (by rw [List.getElem?_map, (hok u hu).at_]; rfl))) ev_c rfl
  -- half, start, end, point
  refine q_asg (v := .int (h : Int)) (ev_is (ev_op (evlen (Ex.refl H) rfl) ev_c (rv_I ⟨by decide, by decide⟩)) (by rw [← hh]; exact congrArg V.int (by omega))) fun H1 e1 => ?_
  refine q_asgD (d := frD s) (by rw [← hs']; exact ed_ixT (edf e1 rfl (edg (i := 0) e1 rfl ev_c rfl hx0) hxm) ev_c rfl) fun v4 H2 e2 k4 => ?_
  have e02 := e1.trans e2
  refine q_asgD (d := frD e) (by rw [← he']; exact ed_ixT (edf e02 rfl (edg (i := m - 1) e02 rfl (ev_op (evlen e02 rfl) ev_c rv_I0) (by omega) hz0) hzm) ev_c rfl) fun v5 H3 e3 k5 => ?_
  have e03 := e02.trans e3
  refine q_asgD (d := frD p) (by rw [← hp']; exact ed_ixT (edf e03 rfl (edg (i := h - 1) e03 rfl (ev_op (ev_var rfl) ev_c rv_I0) (by omega) hy0) hym) ev_c rfl) fun v6 H4 e4 k6 => ?_
  have e04 := e03.trans e4
  refine q_asgL (el_lst ea_nil (Nat.zero_le _)) fun jp H5 hjp0 e5 hjp => ?_
  have e05 := e04.trans e5
  have hjpH : H4 jp = none := hjp0
  have k4 := (k4.mono e3).mono e4
  have k5 := k5.mono e4
  refine q_forR1 (n := (m : Int)) (ea_cons (evlen e05 rfl) ea_nil) ⟨by omega, by omega⟩ (fun i σ H' => ∃ (J : List (Nat × Bool)) (ws : List V) (x8 x9 x10 x11 x12 x13 : Option V), σ = [some vT, some vg, some vf, some (.int (h : Int)), some v4, some v5, some v6, some (.ref jp), x8, x9, x10, x11, x12, x13, none, none, none] ∧ Ex H4 H' ∧ H' jp = some (.lst ws) ∧ DpAll K H' ws (J.map fun x => .tuple [.int (x.1 : Int), .bool x.2]) ∧ J.length ≤ i ∧
      (∀ q ∈ J, ∃ (k : Nat) (u : Leaf), LG[k]? = some u ∧ u.1 = q.1 ∧ q.2 = decide (k < h) ∧ areaS 0 (tst Ts u) s p * (m : Rat) = (h : Rat) * areaS 0 (tst Ts u) s e) ∧ (∀ (k : Nat) (u : Leaf), k < i → LG[k]? = some u → areaS 0 (tst Ts u) s p * (m : Rat) = (h : Rat) * areaS 0 (tst Ts u) s e → (u.1, decide (k < h)) ∈ J))
    (fun H6 e6 => ⟨[], [], none, none, none, none, none, none, rfl, e5.trans e6, e6 _ _ hjp, .nil, Nat.le_refl _, fun _ h => absurd h (by simp), fun _ _ h => absurd h (by omega)⟩) (fun i σ' H' hi q => ?_) fun σ' H' q => ?_
  · obtain ⟨J, ws, x8, x9, x10, x11, x12, x13, rfl, hE, hj, hds, hJl, hJ1, hJ2⟩ := q
    have him : i < LG.length := by omega
    obtain ⟨u, hu⟩ : ∃ u, LG[i]? = some u := ⟨_, List.getElem?_eq_getElem him⟩
    have hum := List.mem_of_getElem? hu
    have ult := (hok u hum).lt
    have hE0 := e04.trans hE
    have eT : tst Ts u = Ts[u.1] := by
      unfold tst
      simp [List.getD, ult]
    have hTm : tst Ts u ∈ Ts := by rw [eT]; exact List.getElem_mem ult
    obtain ⟨G, hG, gs, gp, ge⟩ := grid _ hTm
    have gT := good _ hTm
    have bA := area_bd gT hG gs ge
    have ba := area_bd gT hG gs gp
    refine q_asgD (d := stepsD (tst Ts u)) (ed_ixL (ed_var rfl (hvT.mono hE0)) (ev_int (edg hE0 rfl (ev_var rfl) rfl hu)) (at_ofG (j := u.1) rfl (by rw [List.getElem?_map, List.getElem?_eq_getElem ult, eT]; rfl))) fun v9 H6 e6 k9 => ?_
    have hE6 := hE.trans e6
    refine q_asgD (d := frD (areaS 0 (tst Ts u) s e)) (ed_call (ead_cons (ed_var rfl k9) (ead_cons (ed_var rfl (k4.mono hE6)) (ead_cons (ed_var rfl (k5.mono hE6)) ead_nil))) ⟨_, s, e, G, rfl, gT, hG, gs, ge, rfl⟩) fun v10 H7 e7 k10 => ?_
    have hE7 := hE6.trans e7
    refine q_asgD (d := frD (areaS 0 (tst Ts u) s p)) (ed_call (ead_cons (ed_var rfl (k9.mono e7)) (ead_cons (ed_var rfl (k4.mono hE7)) (ead_cons (ed_var rfl (k6.mono hE7)) ead_nil))) ⟨_, s, p, G, rfl, gT, hG, gs, gp, rfl⟩) fun v11 H8 e8 k11 => ?_
    have hE8 := hE7.trans e8
    have k10 := k10.mono e8
    have sd1 := sides.fst i u hu
    have sd2 := sides.snd i u hu
    generalize ha : areaS 0 (tst Ts u) s p = a at *
    generalize hA : areaS 0 (tst Ts u) s e = A at *
    have sm : Sm 10 (m : Int) := Sm.small (by omega)
    have sh : Sm 10 (h : Int) := Sm.small (by omega)
    refine q_asg (v := .int (a.num * (A.den : Int) * (m : Int))) (ev_op (ev_op (ev_pr0 (ed_var rfl k11)) (ev_pr1 (ed_var rfl k10)) (rv_I (cm ba.1 bA.2))) (evlen (e04.trans hE8) rfl) (rv_I (cm (ba.1.mul bA.2) sm))) fun H9 e9 => ?_
    have k10 := k10.mono e9
    have k11 := k11.mono e9
    refine q_asg (v := .int (a.num * (A.den : Int) * (m : Int) - (h : Int) * A.num * (a.den : Int))) (ev_op (ev_var rfl) (ev_op (ev_op (ev_var rfl) (ev_pr0 (ed_var rfl k10)) (rv_I (cm sh bA.1))) (ev_pr1 (ed_var rfl k11)) (rv_I (cm (sh.mul bA.1) ba.2))) rv_I0) fun H10 e10 => ?_
    have sg := sgn_eq (a := a) (A := A) (h := h) (m := m)
    have sg1 : i < h → 0 ≤ a.num * (A.den : Int) * (m : Int) - (h : Int) * A.num * (a.den : Int) := fun lt => sgn_ge (sd1 lt)
    have sg2 : h ≤ i → a.num * (A.den : Int) * (m : Int) - (h : Int) * A.num * (a.den : Int) ≤ 0 := fun le => sgn_le (sd2 le)
    generalize hX : a.num * (A.den : Int) * (m : Int) - (h : Int) * A.num * (a.den : Int) = X at *
    have hE10 := (hE8.trans e9).trans e10
    refine q_when (b := false) (et_is (et_or (et_and (et_test (ev_op (ev_var rfl) (ev_var rfl) rv_I0)) fun _ => et_test (ev_op (ev_var rfl) ev_c rv_I0)) fun _ => et_and (et_test (ev_op (ev_var rfl) (ev_var rfl) rv_I0)) fun _ => et_test (ev_op (ev_var rfl) ev_c rv_I0)) ?_) (fun hb => by cases hb) fun _ H11 e11 => ?_
    · by_cases lt : i < h
      · have := sg1 lt
        rw [decide_eq_false (show ¬ X < 0 by omega), decide_eq_false (show ¬ (h : Int) ≤ (i : Int) by omega), Bool.and_false, Bool.false_and]
        rfl
      · have := sg2 (by omega)
        rw [decide_eq_false (show ¬ (i : Int) < (h : Int) by omega), decide_eq_false (show ¬ 0 < X by omega), Bool.and_false, Bool.false_and]
        rfl
    have hE11 := hE10.trans e11
    have e611 := (((((e6.trans e7).trans e8).trans e9).trans e10).trans e11)
    refine s_when (b := decide (V.int X = V.int 0)) (et_test (ev_op (ev_var rfl) ev_c (rv_eq rfl))) (fun hb H12 e12 => ?_) fun hb H12 e12 => ?_
    · have X0 : X = 0 := V.int.inj (of_decide_eq_true hb)
      have eqq := sg.mp X0
      have e612 := e611.trans e12
      have hj12 := e612 _ _ hj
      refine s_appD (d := .tuple [.int (u.1 : Int), .bool (decide ((i : Int) < (h : Int)))]) hj12 (ev_var rfl) (ed_tup (ead_cons (edg ((e04.trans hE11).trans e12) rfl (ev_var rfl) rfl hu) (ead_cons (ed_bl (ev_op (ev_var rfl) (ev_var rfl) rv_I0)) ead_nil)) (by show 2 ≤ 100000; decide)) (by rw [hds.len, List.length_map]; omega) fun v13 H13 e13 k13 => ?_
      have hj13 := e13 _ _ hj12
      have ed : decide ((i : Int) < (h : Int)) = decide (i < h) := decide_eq_decide.mpr (by omega)
      rw [ed] at k13
      refine ⟨J ++ [(u.1, decide (i < h))], ws ++ [v13], _, _, _, _, _, _, rfl, Ex.mut ((hE11.trans e12).trans e13) hjpH, upd_same, ?_, by rw [List.length_append, List.length_singleton]; omega, fun q hq => ?_, fun k w hk hw ew => ?_⟩
      · refine DpAll.upd hj13 (n := 1) ?_ ?_
        · rw [List.all_map]
          exact List.all_eq_true.mpr fun _ _ => rfl
        · rw [List.map_append]
          exact (hds.mono (e612.trans e13)).app (.one k13)
      · rcases List.mem_append.mp hq with hq | hq
        · exact hJ1 q hq
        · rw [List.mem_singleton] at hq
          subst hq
          exact ⟨i, u, hu, rfl, rfl, by rw [ha, hA]; exact eqq⟩
      · by_cases ek : k = i
        · subst ek
          rw [hu] at hw
          cases hw
          exact List.mem_append_right _ (List.mem_singleton.mpr rfl)
        · exact List.mem_append_left _ (hJ2 k w (by omega) hw ew)
    · have X0 : X ≠ 0 := fun q => of_decide_eq_false hb (by rw [q])
      refine ⟨J, ws, _, _, _, _, _, _, rfl, hE11.trans e12, (e611.trans e12) _ _ hj, hds.mono (e611.trans e12), by omega, hJ1, fun k w hk hw ew => ?_⟩
      by_cases ek : k = i
      · subst ek
        rw [hu] at hw
        cases hw
        rw [ha, hA] at ew
        exact absurd (sg.mpr ew) X0
      · exact hJ2 k w (by omega) hw ew
  · obtain ⟨J, ws, x8, x9, x10, x11, x12, x13, rfl, hE, hj, hds, hJl, hJ1, hJ2⟩ := q
    rw [Int.toNat_natCast] at hJ2 hJl
    have hdJ : Dp K H' (.ref jp) (.list (J.map fun x => .tuple [.int (x.1 : Int), .bool x.2])) := .lst (SqL.of hj) hds
    refine q_asgLD (ds := (J.filter (·.2)).map fun x => .int (x.1 : Int)) (eld_lc2 (α := Nat × Bool) (xs := J) (n := 0) (fun x => .int (x.1 : Int)) (fun x => .bool x.2) (fun x => x.2) (fun x => .int (x.1 : Int)) (ed_var rfl hdJ) (by omega) (fun _ _ => by rfl) (fun _ _ _ => rfl) fun q hq w w' H6 e6 k1 k2 => ⟨et_B (ev_bl (ed_var rfl k2)), fun _ => ed_var rfl k1⟩) fun fp fs H6 hfp0 e6 hfp hfs => ?_
    refine q_asgLD (ds := (J.filter (!·.2)).map fun x => .int (x.1 : Int)) (eld_lc2 (α := Nat × Bool) (xs := J) (n := 0) (fun x => .int (x.1 : Int)) (fun x => .bool x.2) (fun x => !x.2) (fun x => .int (x.1 : Int)) (ed_var rfl (hdJ.mono e6)) (by omega) (fun _ _ => by rfl) (fun _ _ _ => rfl) fun q hq w w' H7 e7 k1 k2 => ⟨et_not (et_B (ev_bl (ed_var rfl k2))), fun _ => ed_var rfl k1⟩) fun op' os' H7 hop0 e7 hop hos => ?_
    have hF : Dp K H7 (.ref fp) (.list (((J.filter (·.2)).map fun x => (x.1 : Int)).map PyData.int)) := by
      rw [List.map_map]
      exact .lst (SqL.of (e7 _ _ hfp)) (hfs.mono e7)
    have hO : Dp K H7 (.ref op') (.list (((J.filter (!·.2)).map fun x => (x.1 : Int)).map PyData.int)) := by
      rw [List.map_map]
      exact .lst (SqL.of hop) hos
    have hne : (J.filter (·.2)).map (fun x => (x.1 : Int)) ≠ [] := fun q => by
      obtain ⟨k, u, k1, k2, k3⟩ := sides.one
      have := hJ2 k u (by
        have := (List.getElem?_eq_some_iff.mp k2).1
        omega) k2 k3
      have m1 : (u.1, decide (k < h)) ∈ J.filter (·.2) := List.mem_filter.mpr ⟨this, decide_eq_true k1⟩
      rw [List.map_eq_nil_iff.mp q] at m1
      cases m1
    have hord : ∀ a ∈ (J.filter (·.2)).map (fun x => (x.1 : Int)), ∀ b ∈ (J.filter (!·.2)).map (fun x => (x.1 : Int)), a < b := fun a ha b hb => by
      obtain ⟨q, hq, rfl⟩ := List.mem_map.mp ha
      obtain ⟨r, hr', rfl⟩ := List.mem_map.mp hb
      obtain ⟨hq1, hq2⟩ := List.mem_filter.mp hq
      obtain ⟨hr1, hr2⟩ := List.mem_filter.mp hr'
      obtain ⟨k, u, u1, u2, u3, u4⟩ := hJ1 q hq1
      obtain ⟨l, w, w1, w2, w3, w4⟩ := hJ1 r hr1
      have kh : k < h := of_decide_eq_true (u3.symm.trans hq2)
      have lh : ¬ l < h := of_decide_eq_false (w3.symm.trans (by simpa using hr2))
      have := sides.ord k l u w u1 w1 kh (by omega) u4 w4
      omega
    generalize hFF : (J.filter (·.2)).map (fun x => (x.1 : Int)) = FF at *
    generalize hOO : (J.filter (!·.2)).map (fun x => (x.1 : Int)) = OO at *
    have okI : ∀ l : List Int, okD 1 (.list (l.map PyData.int)) = true := fun l => by
      show (l.map PyData.int).all (okD 0) = true
      rw [List.all_map]
      exact List.all_eq_true.mpr fun _ _ => rfl
    have iffI : ∀ l : List Int, (PyData.list (l.map PyData.int) = PyData.list [] ↔ l = []) := fun l => by
      rw [PyData.list.injEq, List.map_eq_nil_iff]
    refine s_ret (v := .bl true) (ev_is (ev_andV (ev_neD (n := 1) (m := 1) (p := FF = []) (ed_var rfl hF) (eld_lst ead_nil (Nat.zero_le _)).toD (okI FF) rfl (iffI FF)) fun _ => ev_orV (b := true) (ev_eqD (n := 1) (m := 1) (p := OO = []) (ed_var rfl hO) (eld_lst ead_nil (Nat.zero_le _)).toD (okI OO) rfl (iffI OO)) fun hb => ev_maxmin rfl rfl hF hO hne (of_decide_eq_false hb) hord) ?_) fun H8 e8 => hQ _ H8 ((((e04.trans hE).trans e6).trans e7).trans e8) (.bl true)
    rw [decide_eq_false hne, Bool.or_true]
    rfl
end
end Fk
end
section
set_option Elab.async false
set_option linter.all false
set_option maxRecDepth 100000
set_option maxHeartbeats 2000000
namespace Fk
open PySem PySem.Spec PyProof.Rows L2 Evl
section
variable {P : Program} {w : World} {K : PySem.W.Frag} {mg : Str → Option Value} {base : Heap} {H H' : Hp} {σ : L2.St} {te ta tb tl to : TE} {D : Ends} {tz : TS} {tt t : TT} {v : V} {d : PyData} {ds : List PyData}
abbrev lAllRight : Stmt := top 47
abbrev nAllRight : List Str := ["_law_told", "_law_order", "_law_found", "_law_groups", "_law_group"]
theorem lc_allright : FnScope nAllRight ["_law_told", "_law_order", "_law_found"] (defScope lAllRight) := ⟨rfl, rfl, rfl, by decide +kernel, rfl, by decide +kernel, by decide +kernel⟩
theorem leaf_vals {L : List Leaf} {xs : List V} (h : DpAll K H xs (L.map fun x => .int (x.1 : Int))) : xs = nV (L.map (·.1)) := by
  have e : (L.map fun x => PyData.int (x.1 : Int)) = (L.map fun x => (x.1 : Int)).map PyData.int := by rw [List.map_map]; rfl
  rw [e] at h
  rw [dps_ints h, List.map_map]
  unfold nV
  rw [List.map_map]
  rfl
theorem vals_leaf (L : List Leaf) : DpAll K H (nV (L.map (·.1))) (L.map fun x => .int (x.1 : Int)) := by
  have e : (L.map fun x => PyData.int (x.1 : Int)) = (L.map fun x => (x.1 : Int)).map PyData.int := by rw [List.map_map]; rfl
  rw [e]
  have e2 : nV (L.map (·.1)) = (L.map fun x => (x.1 : Int)).map V.int := by
    unfold nV
    rw [List.map_map, List.map_map]
    rfl
  rw [e2]
  exact ints_dps _
theorem ex_hid_new {l : Addr} {o : HO} (h : H l = none) : Ex H (hid l (L2.upd H l o)) := fun b u hb => by
  have nb : b ≠ l := ne_of_none hb h
  rw [hid_ne nb, upd_ne nb]
  exact hb
theorem q_pop {i : Nat} {l : Addr} {ws : List V} {y : V} (h : Ev to σ H (.ref l)) (hl : H l = some (.lst ws)) (hy : ws[ws.length - 1]? = some y) (k : ∀ H1, Ex H H1 → tz D (σ.set i (some y)) (L2.upd H1 l (.lst ws.dropLast))) : tSeq (tAsg (tBM0 K "list" rPop to) (gName i)) tz D σ H := h H (Ex.refl H) _ fun H1 e1 =>
  ⟨Or.inl ⟨rfl, ws, sq_of (e1 l _ hl)⟩, l, ws, y, rfl, rfl, e1 _ _ hl, hy, k H1 e1⟩
def R_allright : List PyData → PyData → Prop := fun ds d => ∃ Ts als L n, ds = [toldD Ts, leafsD L, .list ((als : List (Rat × Rat)).map pieceD)] ∧ 1 ≤ L.length ∧ L.length ≤ 8 ∧ (∀ T ∈ Ts, Good T) ∧ (∀ x ∈ L, LeafOk Ts als x) ∧ RightN Ts n L ∧ d = .bool true
def mu (GS : List (List Leaf)) : Nat := (GS.map fun G => 2 * G.length - 1).sum
theorem mu_app (A B : List (List Leaf)) : mu (A ++ B) = mu A + mu B := by
  unfold mu
  rw [List.map_append, List.sum_append]
theorem mu_one (G : List Leaf) : mu [G] = 2 * G.length - 1 := by
  unfold mu
  simp
theorem mu_len : ∀ {GS : List (List Leaf)}, (∀ G ∈ GS, 1 ≤ G.length) → GS.length ≤ mu GS
  | [], _ => Nat.zero_le _
  | G :: r, h => by
    have h1 := mu_len (GS := r) fun x hx => h x (List.mem_cons_of_mem _ hx)
    have h2 := h G (List.mem_cons_self ..)
    have e : mu (G :: r) = mu [G] + mu r := mu_app [G] r
    rw [e, mu_one, List.length_cons]
    omega
theorem ok_allright {f : Addr} {fd : FuncData} (F : Fun K "_law_all_right" "_law_all_right" lAllRight f fd) (Lg : Has P w K mg base "_law_group_right" 4 ["_law_told", "_law_group", "_law_found"] (spP K R_group)) (ml : mg "len" = none) :
    FnOk P w K mg base CX0 5 f fd ["_law_told", "_law_order", "_law_found"] (spP K R_allright) := by
  refine okP F lc_allright (fun ds d h => by obtain ⟨Ts, als, L, n, rfl, _⟩ := h; rfl) fun cdv A outer s0 H vs Q E ds d hr hv hR hQ => ?_
  obtain ⟨Ts, als, L, n, rfl, l1, l8, good, hok, hright, rfl⟩ := hR
  obtain ⟨vT, vo, vf, rfl, hvT, hvo, hvf⟩ := dps3 hv
  refine ⟨_, pss_cons (ps_set (i := 3) lc_allright.nd rfl (.inl rfl) (pe_lst (pa1 (pv 1))))
    (pss_cons (ps_while PassesOwn.never (pt_truth (pv 3) (by intro _; rfl))
      (pss_cons (ps_set (i := 4) lc_allright.nd rfl (.inl rfl) (pe_bm0 PySem.F.plainAttrs_list PySem.F.slot_list_pop PySem.F.type_list_pop mt_pop (pv 3)))
      (pss_one (ps_if (pt_cmpR op_gt (lenk K ml (pv 4)) pe_int (nomark _))
        (pss_cons (ps_if (pt_not (pt_val (pe_callH Lg hr (pa_cons (pv 0) (pa_cons (pv 4) (pa_cons (pv 2) pa_nil)))))) (pss_one (ps_ret pe_bl)) pss_nil)
        (pss_one (ps_set (i := 3) lc_allright.nd rfl (.inl rfl) (pe_op op_cat (pv 3) (pe_lst (pa2 (pe_slice sl_list (pv 4) po_none (po_some (pe_op op_fdiv (lenk K ml (pv 4)) pe_int))) (pe_slice sl_list (pv 4) (po_some (pe_op op_fdiv (lenk K ml (pv 4)) pe_int)) po_none)))))))
        pss_nil))))
    (pss_one (ps_ret pe_bl))), ?_⟩
  refine q_asgL (el_lst (vs := [vo]) (ea_cons (ev_var rfl) ea_nil) (by show 1 ≤ 100000; decide)) fun gp H1 hgp0 e1 hgp => ?_
  have evo : Ex H (hid gp H1) := fun b o hb => by
    rw [hid_ne (ne_of_none hb hgp0)]
    exact e1 _ _ hb
  refine q_while (fun m σ H' => ∃ gp ws GS x4, σ = [some vT, some vo, some vf, some (.ref gp), x4] ∧ Ex H H' ∧ H gp = none ∧ H' gp = some (.lst ws) ∧ DpAll K (hid gp H') ws ((GS : List (List Leaf)).map leafsD) ∧ (∀ G ∈ GS, 1 ≤ G.length ∧ G.length ≤ 8 ∧ (∀ x ∈ G, LeafOk Ts als x) ∧ ∃ n, RightN Ts n G) ∧ m = mu GS ∧ m ≤ 15) _
    ⟨gp, [vo], [L], none, rfl, e1, hgp0, hgp, .one (hvo.mono evo), fun G hG => by rw [List.mem_singleton] at hG; subst hG; exact ⟨l1, l8, hok, n, hright⟩, rfl, by rw [mu_one]; omega⟩ ?_
  rintro m σ' H2 ⟨gp, ws, GS, x4, rfl, hE, hg0, hg, hds, hGS, rfl, hm15⟩
  have wl : ws.length = GS.length := by rw [hds.len, List.length_map]
  have gl := mu_len fun G hG => (hGS G hG).1
  refine ⟨!ws.isEmpty, et_truL (ev_var rfl) (SqL.of hg), fun hb H3 e3 => ?_, fun hb H3 e3 => ?_⟩
  · have hne : GS ≠ [] := fun z => by
      rw [z] at wl
      rw [List.length_eq_zero_iff.mp wl] at hb
      cases hb
    obtain ⟨GS', G, rfl⟩ : ∃ GS' G, GS = GS' ++ [G] := ⟨GS.dropLast, GS.getLast hne, (List.dropLast_concat_getLast hne).symm⟩
    have wl2 : ws.length = GS'.length + 1 := by rw [wl, List.length_append]; rfl
    obtain ⟨g1, g8, gok, ng, gright⟩ := hGS G (List.mem_append_right _ (List.mem_singleton.mpr rfl))
    obtain ⟨y, hy, hyd⟩ := hds.get (j := ws.length - 1) (d := leafsD G) (by rw [wl2, List.map_append, Nat.add_sub_cancel, List.getElem?_append_right (by rw [List.length_map]; exact Nat.le_refl _), List.length_map, Nat.sub_self]; rfl)
    have hds' : DpAll K (hid gp H2) ws.dropLast (GS'.map leafsD) := by
      have q := hds.take GS'.length
      rw [List.map_append, List.take_left' (by rw [List.length_map])] at q
      rw [List.dropLast_eq_take, wl2, Nat.add_sub_cancel]
      exact q
    refine ⟨_, fun _ _ z => z, q_pop (ev_var rfl) (e3 _ _ hg) hy fun H4 e4 => ?_⟩
    have e24 := e3.trans e4
    have hE5 : Ex H (L2.upd H4 gp (.lst ws.dropLast)) := Ex.mut (hE.trans e24) hg0
    have hh5 : Ex (hid gp H2) (hid gp (L2.upd H4 gp (.lst ws.dropLast))) := by
      rw [hid_upd]
      exact hid_mono e24
    have hg5 : L2.upd H4 gp (.lst ws.dropLast) gp = some (.lst ws.dropLast) := upd_same
    generalize L2.upd H4 gp (.lst ws.dropLast) = H5 at *
    have hyd5 : Dp K H5 y (leafsD G) := (hyd.mono hh5).mono hid_ex
    have evlen : ∀ {H6 : Hp}, Ex H5 H6 → Ev (tCB (rLenS K) (tCons (tVar 4) tNil)) [some vT, some vo, some vf, some (.ref gp), some y] H6 (.int (G.length : Int)) := fun e6 => ev_is (ev_lenL (ed_var rfl (hyd5.mono e6))) (by rw [List.length_map])
    have mG : mu (GS' ++ [G]) = mu GS' + (2 * G.length - 1) := by rw [mu_app, mu_one]
    have hGS' : ∀ G ∈ GS', 1 ≤ G.length ∧ G.length ≤ 8 ∧ (∀ x ∈ G, LeafOk Ts als x) ∧ ∃ n, RightN Ts n G := fun Z hZ => hGS Z (List.mem_append_left _ hZ)
    refine s_when (b := decide ((1 : Int) < (G.length : Int))) (et_test (ev_op (evlen (Ex.refl _)) ev_c rv_I0)) (fun hb H6 e6 => ?_) fun hb H6 e6 => ?_
    · have l2 : 2 ≤ G.length := by
        have := of_decide_eq_true hb
        omega
      obtain ⟨k, hgr, hr1, hr2⟩ : ∃ k, GroupR Ts G ∧ RightN Ts k (G.take (G.length / 2)) ∧ RightN Ts k (G.drop (G.length / 2)) := by
        cases ng with
        | zero =>
          have : G.length ≤ 1 := gright
          omega
        | succ k =>
          rcases (show G.length ≤ 1 ∨ _ from gright) with q | q
          · omega
          · exact ⟨k, q⟩
      have hE6 := hE5.trans e6
      refine q_when (b := false) (et_not (a := true) (et_B (ev_bl (ed_call (ead_cons (ed_var rfl (hvT.mono hE6)) (ead_cons (ed_var rfl (hyd5.mono e6)) (ead_cons (ed_var rfl (hvf.mono hE6)) ead_nil))) ⟨Ts, als, G, rfl, l2, g8, good, gok, hgr, rfl⟩)))) (fun hb => by cases hb) fun _ H7 e7 => ?_
      have e57 := e6.trans e7
      obtain ⟨gq, xs, rfl, gq1, gq2⟩ := (hyd5.mono e57).lst_inv
      obtain rfl := leaf_vals gq2
      have ehalf : ∀ {H8 : Hp}, Ex H5 H8 → Ev (tOp (rI CDiv fun i j => .int (i / j)) (tCB (rLenS K) (tCons (tVar 4) tNil)) (tC (.int 2))) [some vT, some vo, some vf, some (.ref gp), some (.ref gq)] H8 (.int ((G.length / 2 : Nat) : Int)) := fun e8 =>
        ev_is (ev_op (evlen e8) ev_c (rv_I ⟨by decide, by decide⟩)) (congrArg V.int (by omega))
      have elA := el_sl (K := K) (te := tVar 4) (tl := tNoPart) (th := tPart (tOp (rI CDiv fun i j => .int (i / j)) (tCB (rLenS K) (tCons (tVar 4) tNil)) (tC (.int 2)))) (σ := [some vT, some vo, some vf, some (.ref gp), some (.ref gq)]) (H := H7) (ev_var rfl) eo_none (eo_some (ehalf e57)) gq1
      rw [cut_take, nV_take, ← List.map_take] at elA
      have elB := el_sl (K := K) (te := tVar 4) (tl := tPart (tOp (rI CDiv fun i j => .int (i / j)) (tCB (rLenS K) (tCons (tVar 4) tNil)) (tC (.int 2)))) (th := tNoPart) (σ := [some vT, some vo, some vf, some (.ref gp), some (.ref gq)]) (H := H7) (ev_var rfl) (eo_some (ehalf e57)) eo_none gq1
      rw [cut_drop, nV_drop, ← List.map_drop] at elB
      refine ⟨_, rfl, elA H7 (Ex.refl _) _ fun pa H8 hpa e8 hla => elB H8 e8 _ fun pb H9 hpb e9 hlb => ⟨sz_of (by show 2 ≤ 100000; decide), fun pl hpl => ⟨gp, pl, ws.dropLast, [.ref pa, .ref pb], rfl, rfl, ?_, upd_same, sz_of ?_, fun pn hpn => ?_⟩⟩⟩
      · exact Ex.new hpl _ _ ((e8.trans e9) _ _ (e57 _ _ hg5))
      · rw [List.length_dropLast]
        show ws.length - 1 + 2 ≤ 100000
        omega
      · have e79 := e8.trans e9
        have e510 := (e57.trans e79).trans (Ex.new hpl (o := .lst [.ref pa, .ref pb]))
        refine ⟨mu GS' + (2 * (G.length / 2) - 1) + (2 * (G.length - G.length / 2) - 1), by omega, pn, ws.dropLast ++ [.ref pa, .ref pb], GS' ++ [G.take (G.length / 2), G.drop (G.length / 2)], _, rfl, (hE5.trans e510).trans (Ex.new hpn), fresh_back (hE5.trans e510) hpn, upd_same, ?_, fun Z hZ => ?_, ?_, by omega⟩
        · rw [List.map_append]
          refine ((hds'.mono hh5).mono ((hid_ex.trans e510).trans (ex_hid_new hpn))).app ?_
          have hpa9 : L2.upd H9 pl (.lst [.ref pa, .ref pb]) pa = some (.lst (nV ((G.take (G.length / 2)).map (·.1)))) := Ex.new hpl _ _ (e9 _ _ hla)
          have hpb9 : L2.upd H9 pl (.lst [.ref pa, .ref pb]) pb = some (.lst (nV ((G.drop (G.length / 2)).map (·.1)))) := Ex.new hpl _ _ hlb
          exact .cons (.lst (SqL.of (ex_hid_new hpn _ _ hpa9)) (vals_leaf _)) (.one (.lst (SqL.of (ex_hid_new hpn _ _ hpb9)) (vals_leaf _)))
        · rcases List.mem_append.mp hZ with hZ | hZ
          · exact hGS' Z hZ
          · rcases List.mem_cons.mp hZ with rfl | hZ
            · exact ⟨by rw [List.length_take]; omega, by rw [List.length_take]; omega, fun x hx => gok x (List.mem_of_mem_take hx), k, hr1⟩
            · rw [List.mem_singleton] at hZ
              subst hZ
              exact ⟨by rw [List.length_drop]; omega, by rw [List.length_drop]; omega, fun x hx => gok x (List.mem_of_mem_drop hx), k, hr2⟩
        · have em : mu [G.take (G.length / 2), G.drop (G.length / 2)] = mu [G.take (G.length / 2)] + mu [G.drop (G.length / 2)] := mu_app [_] [_]
          rw [mu_app, em, mu_one, mu_one, List.length_take, List.length_drop]
          omega
    · refine ⟨mu GS', by omega, gp, ws.dropLast, GS', _, rfl, hE5.trans e6, hg0, e6 _ _ hg5, (hds'.mono hh5).mono (hid_mono e6), hGS', rfl, by omega⟩
  · exact s_ret (v := .bl true) ev_c fun H4 e4 => hQ _ H4 ((hE.trans e3).trans e4) (.bl true)
end
end Fk
end
section
set_option Elab.async false
set_option linter.all false
set_option maxRecDepth 100000
set_option maxHeartbeats 2000000
namespace Fk
open PySem PySem.Spec PyProof.Rows L2 Evl
/-! ### the law's plain facts -/
theorem lookup_mem : ∀ {L : List Leaf} {x : Leaf}, (L.map (·.1)).Nodup → x ∈ L → L.lookup x.1 = some x.2
  | [], _, _, h => absurd h (by simp)
  | y :: r, x, nd, h => by
    rw [List.map_cons, List.nodup_cons] at nd
    rcases List.mem_cons.mp h with rfl | h'
    · simp [List.lookup]
    · have ne : ¬ x.1 = y.1 := fun q => nd.1 (q ▸ List.mem_map.mpr ⟨x, h', rfl⟩)
      have e : (x.1 == y.1) = false := by simpa using ne
      obtain ⟨y1, y2⟩ := y
      simp only [List.lookup, e]
      exact lookup_mem nd.2 h'
def alsG (L : List Leaf) (i : Nat) : Rat × Rat := (L.lookup i).getD (0, 0)
def alsOf (L : List Leaf) (n : Nat) : List (Rat × Rat) := (List.range n).map (alsG L)
theorem alsOf_len (L : List Leaf) (n : Nat) : (alsOf L n).length = n := by
  unfold alsOf
  rw [List.length_map, List.length_range]
theorem nodup_fst {L : List Leaf} {n : Nat} (p : (L.map (·.1)).Perm (List.range n)) : (L.map (·.1)).Nodup := p.nodup_iff.mpr List.nodup_range
theorem alsG_mem {L : List Leaf} {n : Nat} (p : (L.map (·.1)).Perm (List.range n)) {x : Leaf} (h : x ∈ L) : alsG L x.1 = x.2 := by
  unfold alsG
  rw [lookup_mem (nodup_fst p) h]
  rfl
theorem leaf_lt {L : List Leaf} {n : Nat} (p : (L.map (·.1)).Perm (List.range n)) {x : Leaf} (h : x ∈ L) : x.1 < n := List.mem_range.mp (p.mem_iff.mp (List.mem_map.mpr ⟨x, h, rfl⟩))
theorem alsOf_at {L : List Leaf} {n : Nat} (p : (L.map (·.1)).Perm (List.range n)) {x : Leaf} (h : x ∈ L) : (alsOf L n)[x.1]? = some x.2 := by
  unfold alsOf
  rw [List.getElem?_map, List.getElem?_range (leaf_lt p h)]
  exact congrArg some (alsG_mem p h)
theorem alsOf_perm {L : List Leaf} {n : Nat} (p : (L.map (·.1)).Perm (List.range n)) : (alsOf L n).Perm (L.map (·.2)) := by
  have e : L.map (·.2) = (L.map (·.1)).map (alsG L) := by
    rw [List.map_map]
    exact List.map_congr_left fun x hx => (alsG_mem p hx).symm
  rw [e]
  exact (p.map (alsG L)).symm
theorem alsOf_get {L : List Leaf} {n : Nat} (p : (L.map (·.1)).Perm (List.range n)) {i : Nat} {x : Rat × Rat} (h : (alsOf L n)[i]? = some x) : (i, x) ∈ L := by
  have hi : i < n := by
    have := (List.getElem?_eq_some_iff.mp h).1
    rwa [alsOf_len] at this
  obtain ⟨y, hy, rfl⟩ := List.mem_map.mp (p.mem_iff.mpr (List.mem_range.mpr hi))
  rw [alsOf_at p hy] at h
  cases h
  exact hy
theorem Chain.mem : ∀ {L : List Leaf} {a b : Rat}, Chain a L b → ∀ x ∈ L, a ≤ x.2.1 ∧ x.2.1 < x.2.2
  | [], _, _, _, _, h => absurd h (by simp)
  | y :: r, a, b, ⟨h1, h2, h3⟩, x, h => by
    rcases List.mem_cons.mp h with rfl | h
    · exact ⟨by grind, h2⟩
    · have := Chain.mem h3 x h
      exact ⟨by grind, this.2⟩
theorem Chain.starts : ∀ {L : List Leaf} {a b : Rat}, Chain a L b → (L.map (·.2.1)).Nodup
  | [], _, _, _ => List.nodup_nil
  | y :: r, a, b, ⟨h1, h2, h3⟩ => by
    rw [List.map_cons, List.nodup_cons]
    refine ⟨fun h => ?_, Chain.starts h3⟩
    obtain ⟨x, hx, e⟩ := List.mem_map.mp h
    have := (Chain.mem h3 x hx).1
    grind
theorem filter_one {α β : Type} [DecidableEq β] (g : α → β) : ∀ {L : List α} {x : α}, (L.map g).Nodup → x ∈ L → L.filter (fun y => decide (g y = g x)) = [x]
  | [], _, _, h => absurd h (by simp)
  | y :: r, x, nd, h => by
    rw [List.map_cons, List.nodup_cons] at nd
    rcases List.mem_cons.mp h with rfl | h
    · rw [List.filter_cons, if_pos (by simp)]
      congr 1
      refine List.filter_eq_nil_iff.mpr fun z hz q => nd.1 ?_
      exact List.mem_map.mpr ⟨z, hz, of_decide_eq_true q⟩
    · rw [List.filter_cons, if_neg (fun q => nd.1 (by rw [of_decide_eq_true q]; exact List.mem_map.mpr ⟨x, h, rfl⟩))]
      exact filter_one g nd.2 h
theorem taker_one {L : List Leaf} {n : Nat} (p : (L.map (·.1)).Perm (List.range n)) (c : Chain 0 L 1) {x : Leaf} (h : x ∈ L) :
    (List.range n).filter (fun i => decide ((alsG L i).1 = x.2.1)) = [x.1] := by
  have q := p.symm.filter (fun i => decide ((alsG L i).1 = x.2.1))
  rw [List.filter_map] at q
  have e : L.filter ((fun i => decide ((alsG L i).1 = x.2.1)) ∘ (·.1)) = L.filter (fun y => decide (y.2.1 = x.2.1)) := by
    refine List.filter_congr fun y hy => ?_
    show decide ((alsG L y.1).1 = x.2.1) = _
    rw [alsG_mem p hy]
  rw [e, filter_one (fun (y : Leaf) => y.2.1) c.starts h] at q
  exact q.eq_singleton
theorem stepD_inj {x y : Rat × Nat} : stepD x = stepD y ↔ x = y := by
  constructor
  · intro h
    have h : PyData.tuple [frD x.1, .int (x.2 : Int)] = PyData.tuple [frD y.1, .int (y.2 : Int)] := h
    simp only [PyData.tuple.injEq, List.cons.injEq, and_true, PyData.int.injEq] at h
    exact Prod.ext (frD_inj.mp h.1) (by omega)
  · intro h
    rw [h]
theorem map_injG {α β : Type} {f : α → β} (hf : ∀ {x y}, f x = f y ↔ x = y) : ∀ {xs ys : List α}, xs.map f = ys.map f ↔ xs = ys
  | [], [] => by simp
  | [], _ :: _ => by simp
  | _ :: _, [] => by simp
  | x :: r, y :: q => by
    rw [List.map_cons, List.map_cons, List.cons.injEq, List.cons.injEq, hf, map_injG hf]
theorem stepsD_inj {T T' : Steps} : stepsD T = stepsD T' ↔ T = T' := by
  unfold stepsD
  rw [PyData.list.injEq, map_injG stepD_inj]
theorem stepsD_ok (T : Steps) : okD 3 (stepsD T) = true := by
  show (T.map stepD).all (okD 2) = true
  rw [List.all_map]
  exact List.all_eq_true.mpr fun _ _ => rfl
theorem toldD_ok (Ts : List Steps) : okD 4 (toldD Ts) = true := by
  show (Ts.map stepsD).all (okD 3) = true
  rw [List.all_map]
  exact List.all_eq_true.mpr fun T _ => stepsD_ok T
theorem pieces_ok (als : List (Rat × Rat)) : okD 4 (.list (als.map pieceD)) = true := by
  show (als.map pieceD).all (okD 3) = true
  rw [List.all_map]
  exact List.all_eq_true.mpr fun _ _ => rfl
/-- what a deal keeps -/
theorem deal_ok {Ts : List Steps} (hT : ∀ T ∈ Ts, Good T) (h1 : 1 ≤ Ts.length) (h8 : Ts.length ≤ 8) : PartOk Ts 3 (List.range Ts.length) 0 1 1 (dealF Ts) := (pre_deal hT h1 h8).ok
theorem leaf_grid {Ts : List Steps} (hT : ∀ T ∈ Ts, Good T) (h1 : 1 ≤ Ts.length) (h8 : Ts.length ≤ 8) {x : Leaf} (h : x ∈ dealF Ts) : ∃ D', 0 < D' ∧ D' ≤ 2 ^ 100 ∧ On D' x.2.1 ∧ On D' x.2.2 := by
  obtain ⟨D', a, b, c⟩ := (deal_ok hT h1 h8).grid x h
  exact ⟨D', a, Nat.le_trans b (by decide), c⟩
theorem leaf_span {Ts : List Steps} (hT : ∀ T ∈ Ts, Good T) (h1 : 1 ≤ Ts.length) (h8 : Ts.length ≤ 8) {x : Leaf} (h : x ∈ dealF Ts) : SpanOk x.2 := by
  obtain ⟨D', a, b, c, d⟩ := leaf_grid hT h1 h8 h
  have b2 : D' ≤ 2 ^ 1000 := Nat.le_trans b (Nat.pow_le_pow_right (by decide) (by decide))
  exact ⟨c.1, ((deal_ok hT h1 h8).chain.mem x h).2, d.2.1, bd1 a b2 c.2.2 c.1 c.2.1, bd1 a b2 d.2.2 d.1 d.2.1⟩
theorem leafOk_deal {Ts : List Steps} (hT : ∀ T ∈ Ts, Good T) (h1 : 1 ≤ Ts.length) (h8 : Ts.length ≤ 8) {x : Leaf} (h : x ∈ dealF Ts) : LeafOk Ts (alsOf (dealF Ts) Ts.length) x :=
  ⟨leaf_lt (deal_ok hT h1 h8).perm h, alsOf_at (deal_ok hT h1 h8).perm h, leaf_grid hT h1 h8 h⟩
/-- the worth of a leaf: on what grid, and no less than its share -/
theorem leaf_worth {Ts : List Steps} (hT : ∀ T ∈ Ts, Good T) (h1 : 1 ≤ Ts.length) (h8 : Ts.length ≤ 8) {x : Leaf} (h : x ∈ dealF Ts) {T : Steps} (ht : Ts[x.1]? = some T) :
    (∃ G, GT G T ∧ On G x.2.1 ∧ On G x.2.2) ∧ R_below [frD (areaS 0 T x.2.1 x.2.2 / tot T), pr 1 (Ts.length : Int)] (.bool false) := by
  obtain ⟨D', a, b, c, d⟩ := leaf_grid hT h1 h8 h
  have g := hT T (List.mem_of_getElem? ht)
  obtain ⟨⟨G, g1, g2, g3, _⟩, _, bq, _⟩ := seg_bd (h := 1) (m := 2) g (by decide) (by decide) (by decide) a (Nat.le_trans b (Nat.pow_le_pow_right (by decide) (by decide))) c ((deal_ok hT h1 h8).chain.mem x h).2 d
  refine ⟨⟨G, g1, g2, g3⟩, ?_⟩
  have sh := (deal_ok hT h1 h8).share x h
  have et : tst Ts x = T := by
    unfold tst
    rw [List.getD_eq_getElem?_getD, ht]
    rfl
  rw [et, List.length_range] at sh
  have tp := g.tot_pos
  generalize hq : areaS 0 T x.2.1 x.2.2 / tot T = q at *
  have e1 : q * tot T = areaS 0 T x.2.1 x.2.2 := by
    rw [← hq]
    exact Rat.div_mul_cancel (by grind)
  have e2 : (1 : Rat) ≤ (Ts.length : Rat) * q := by
    refine Rat.le_of_mul_le_mul_right (c := tot T) ?_ tp
    have et : areaS 0 T 0 1 = tot T := rfl
    rw [Rat.one_mul, Rat.mul_assoc, e1, ← et]
    exact sh
  have dp : (0 : Rat) ≤ ((q.den : Nat) : Rat) := Rat.natCast_nonneg
  have e3 : ((q.den : Nat) : Rat) ≤ ((q.num * (Ts.length : Int) : Int) : Rat) := by
    have := Rat.mul_le_mul_of_nonneg_right e2 dp
    rw [Rat.intCast_mul, num_den q, Rat.intCast_natCast]
    rw [Rat.one_mul] at this
    have e : q * ((q.den : Nat) : Rat) * (Ts.length : Rat) = (Ts.length : Rat) * q * ((q.den : Nat) : Rat) := by
      rw [Rat.mul_comm (Ts.length : Rat) q, Rat.mul_assoc, Rat.mul_assoc, Rat.mul_comm (Ts.length : Rat)]
    rw [e]
    exact this
  have e4 : (q.den : Int) ≤ q.num * (Ts.length : Int) := by
    rw [← Rat.intCast_natCast] at e3
    exact Rat.intCast_le_intCast.mp e3
  refine ⟨q.num, q.den, 1, Ts.length, rfl, bq.1, bq.2, Nat.lt_of_lt_of_le (by decide : (1 : Int).natAbs < 2 ^ 1) (Nat.pow_le_pow_right (by decide) (by decide)), ?_, ?_⟩
  · refine Nat.lt_of_lt_of_le (m := 2 ^ 4) (by omega) (Nat.pow_le_pow_right (by decide) (by decide))
  · rw [decide_eq_false (by omega)]
end Fk
end
section
set_option Elab.async false
set_option linter.all false
set_option maxRecDepth 100000
set_option maxHeartbeats 2000000
namespace Fk
open PySem PySem.Spec PyProof.Rows L2 Evl
section
variable {K : PySem.W.Frag} {C CH : Addr} {H H' H0 : Hp} {σ : L2.St} {te ta tb tl to : TE} {D : Ends} {tz : TS} {v : V}
/-! ### what the law's statements do to the heap -/
/-- the list of tastes, what it holds told without it -/
def TLst (K : PySem.W.Frag) (C : Addr) (H : Hp) (tp : Addr) (Ts : List Steps) : Prop := ∃ ws, H tp = some (.lst ws) ∧ ws.length = Ts.length ∧ ∀ (i : Nat) T, Ts[i]? = some T → ∃ y, ws[i]? = some y ∧ TasteAt K C (hid tp H) y T
theorem TLst.at {tp : Addr} {Ts : List Steps} (h : TLst K C H tp Ts) : TastesAt K C H (.ref tp) Ts := by
  obtain ⟨ws, h1, h2, h3⟩ := h
  refine ⟨tp, ws, rfl, SqL.of h1, h2, fun i T hi => ?_⟩
  obtain ⟨y, k1, k2⟩ := h3 i T hi
  exact ⟨y, k1, k2.mono hid_ex⟩
theorem TLst.mono {tp : Addr} {Ts : List Steps} (e : Ex H H') (h : TLst K C H tp Ts) : TLst K C H' tp Ts := by
  obtain ⟨ws, h1, h2, h3⟩ := h
  refine ⟨ws, e _ _ h1, h2, fun i T hi => ?_⟩
  obtain ⟨y, k1, k2⟩ := h3 i T hi
  exact ⟨y, k1, k2.mono (hid_mono e)⟩
/-- [Taste(list(s)) for s in told] -/
theorem q_tastes {i j l : Nat} {vs : List Nat} {vT : V} {Ts : List Steps} (hl : σ[l]? = some (some vT)) (hT : Dp K H vT (toldD Ts)) (good : ∀ T ∈ Ts, Good T) (h8 : Ts.length ≤ 8) (hw : ∀ x, wipe ((wipe σ vs).set j (some x)) vs = wipe σ vs) (hj : j < σ.length)
    (k : ∀ tp H1, H tp = none → Ex H H1 → TLst K C H1 tp Ts → tz D (σ.set i (some (.ref tp))) H1) :
    tSeq (tAsg (tLc (iList K (tVar l)) (gName j) tYes (tMake C (spInit K C) [] E0 (tCons (tCB (rListS K) (tCons (tVar j) tNil)) tNil)) vs) (gName i)) tz D σ H := by
  obtain ⟨a, xs, rfl, hx, hds⟩ := hT.lst_inv
  have xl : xs.length = Ts.length := by rw [hds.len, List.length_map]
  show tLc _ _ _ _ vs σ H (fun x H1 => gName i x σ H1 (tz D))
  refine ⟨_, hl, a, rfl, ⟨xs, hx⟩, fun Dl hD => ?_⟩
  refine lc_list (xs := xs) (fun i H' => Ex H H' ∧ ∃ acc, H' Dl = some (.lst acc) ∧ acc.length = i ∧ ∀ (m : Nat) T, m < i → Ts[m]? = some T → ∃ y, acc[m]? = some y ∧ TasteAt K C (hid Dl H') y T)
    ⟨Ex.new hD, [], upd_same, rfl, fun m T h => absurd h (Nat.not_lt_zero m)⟩ (fun i H' _ c => ex_l c.1 hx) (fun i x H' hi c => ⟨hw x, ?_⟩) fun H' c => ?_
  · obtain ⟨c1, acc, c2, c3, c4⟩ := c
    have hi2 := (List.getElem?_eq_some_iff.mp hi).1
    obtain ⟨d, hd, hxd⟩ := hds.getV hi
    obtain ⟨T, hT, rfl⟩ := map_get hd
    have g := good T (List.mem_of_getElem? hT)
    obtain ⟨b, bs, rfl, hb, hbs⟩ := hxd.lst_inv
    refine et_yes (σ := (wipe σ vs).set j (some (V.ref b))) H' (Ex.refl H') _ fun H3 e3 => ?_
    refine ⟨.ref b, by rw [List.getElem?_set_self (by rw [wipe_length]; exact hj)], b, bs, rfl, .inl (ex_l (c1.trans e3) hb), fun l hl => ?_⟩
    intro p dx hp hdx hne
    have e34 : Ex H3 (L2.upd H3 l (.lst bs)) := Ex.new hl
    have d3 := e3 _ _ c2
    have d4 := e34 _ _ d3
    have pD : p ≠ Dl := fun z => by
      rw [z, d4] at hp
      cases hp
    have dD : dx ≠ Dl := fun z => by
      rw [z, d4] at hdx
      cases hdx
    have lp : l ≠ p := fun z => by
      rw [← z, upd_same] at hp
      cases hp
    have ldx : l ≠ dx := fun z => by
      rw [← z, upd_same] at hdx
      cases hdx
    have hdx' : L2.upd H3 l (.lst bs) dx = none := hdx
    have e45 : Ex (L2.upd H3 l (.lst bs)) (L2.upd (L2.upd (L2.upd H3 l (.lst bs)) dx (.own p)) p (.ins C dx [])) := fun u o hu => by
      rw [upd_ne (ne_of_none hu hp), upd_ne (ne_of_none hu hdx)]
      exact hu
    have d5 := e45 _ _ d4
    refine ⟨p, dx, .ref l, T, rfl, upd_same, ?_, g, fun H6 lr ws t h1 h2 h3 h4 h5 h6 e6 => ⟨rfl, ?_⟩⟩
    · exact .lst (SqL.of (e45 _ _ upd_same)) (((hbs.mono (c1.trans e3)).mono e34).mono e45)
    · have e36 : Ex H3 H6 := fun u o hu => by
        have up : u ≠ p := ne_of_none (e34 _ _ hu) hp
        refine e6 _ _ ?_
        rw [hid_ne up]
        exact e45 _ _ (e34 _ _ hu)
      have d6 := e36 _ _ d3
      have lD : lr ≠ Dl := fun z => by
        rw [z, d5] at h3
        cases h3
      refine ⟨acc, d6, sz_lt (by omega), Ex.mut ((c1.trans e3).trans e36) hD, acc ++ [.ref p], upd_same, by rw [List.length_append, c3]; rfl, fun m T' hm hm' => ?_⟩
      rw [hid_upd]
      rcases Nat.lt_or_ge m i with q | q
      · obtain ⟨y, k1, k2⟩ := c4 m T' q hm'
        exact ⟨y, by rw [List.getElem?_append_left (by omega)]; exact k1, k2.mono (hid_mono (e3.trans e36))⟩
      · obtain rfl : m = i := by omega
        obtain rfl : T = T' := Option.some.inj (hT.symm.trans hm')
        refine ⟨.ref p, by rw [List.getElem?_append_right (by omega), c3, Nat.sub_self]; rfl, p, dx, lr, t, rfl, by rw [hid_ne pD]; exact h1, ?_, Dp.hid d6 (n := 1) rfl h6⟩
        refine .lst (SqL.of (by rw [hid_ne lD]; exact h4)) (dps_keepT (sqt_hid d6) 2 _ _ ?_ h5)
        rw [List.all_map]
        exact List.all_eq_true.mpr fun _ _ => rfl
  · obtain ⟨c1, acc, c2, c3, c4⟩ := c
    rw [xl] at c3 c4
    exact k Dl H' hD c1 ⟨acc, c2, c3, fun i T hi => c4 i T (List.getElem?_eq_some_iff.mp hi).1 hi⟩
/-- a deal's list -/
def DealtAt (K : PySem.W.Frag) (H0 H : Hp) (pc : Addr) (L : List Leaf) (n : Nat) : Prop := ∃ vs, H pc = some (.lst vs) ∧ vs.length = n ∧ ∀ x ∈ L, ∃ v, vs[x.1]? = some v ∧ v ≠ .ref pc ∧ Slot K H0 H v x.2
theorem DealtAt.pieces {pc : Addr} {L : List Leaf} {n : Nat} (h : DealtAt K H0 H pc L n) (p : (L.map (·.1)).Perm (List.range n)) : PiecesAt K H pc (alsOf L n) := by
  obtain ⟨vs, h1, h2, h3⟩ := h
  refine ⟨vs, h1, by rw [h2, alsOf_len], fun i x hi => ?_⟩
  obtain ⟨v, k1, _, q, y, rfl, _, k2, k3⟩ := h3 _ (alsOf_get p hi)
  exact ⟨q, y, k1, k2, k3⟩
theorem DealtAt.slots {pc : Addr} {L : List Leaf} {n : Nat} (h : DealtAt K H0 H pc L n) (p : (L.map (·.1)).Perm (List.range n)) : ∃ vs, H pc = some (.lst vs) ∧ ∀ v ∈ vs, ∃ q ys, v = .ref q ∧ q ≠ pc ∧ H0 q = none ∧ H q = some (.lst ys) := by
  obtain ⟨vs, h1, h2, h3⟩ := h
  refine ⟨vs, h1, fun v hv => ?_⟩
  obtain ⟨i, hi⟩ := List.mem_iff_getElem?.mp hv
  have lt : i < n := by
    rw [← h2]
    exact (List.getElem?_eq_some_iff.mp hi).1
  obtain ⟨x, hx, rfl⟩ := List.mem_map.mp (p.mem_iff.mpr (List.mem_range.mpr lt))
  obtain ⟨v', k1, k0, q, y, rfl, k2, k3, k4⟩ := h3 x hx
  obtain rfl := Option.some.inj (hi.symm.trans k1)
  exact ⟨q, [y], rfl, fun z => k0 (by rw [z]), k2, k3⟩
/-- way.deal(e) -/
theorem te_deal {i : Nat} {hs dx : Addr} {Ts : List Steps} {Q : VK} (hi : σ[i]? = some (some (.ref hs))) (hins : H hs = some (.ins CH dx [])) (good : ∀ T ∈ Ts, Good T) (h1 : 1 ≤ Ts.length) (h8 : Ts.length ≤ 8) (ha : ∀ Q' : VK, (∀ v H1, Ex H H1 → TastesAt K C H1 v Ts → Q' v H1) → te σ H Q')
    (k : ∀ pc H', H pc = none → Ex H H' → DealtAt K H H' pc (dealF Ts) Ts.length → Q (.ref pc) H') : tMeth CH "deal" (spDeal K C CH) [] E0 (tVar i) (tCons te tNil) σ H Q :=
  ⟨.ref hs, hi, hs, dx, [], rfl, hins, rfl, ha _ fun v H1 e1 hT => ⟨hs, dx, v, Ts, rfl, e1 _ _ hins, hT, good, h1, h8, fun pc vs H' h0 e hpc hl hx => k pc H' (fresh_back e1 h0) (e1.trans e) ⟨vs, hpc, hl, fun x hx' => by
    obtain ⟨v', k1, k2, k3⟩ := hx x hx'
    exact ⟨v', k1, k2, k3.back e1⟩⟩⟩⟩
theorem te_tastes {i : Nat} {Ts : List Steps} (hi : σ[i]? = some (some v)) (hT : TastesAt K C H v Ts) : ∀ H1, Ex H H1 → ∀ Q' : VK, (∀ v H2, Ex H1 H2 → TastesAt K C H2 v Ts → Q' v H2) → tVar i σ H1 Q' := fun H1 e Q' q => ⟨v, hi, q v H1 (Ex.refl H1) (hT.mono e)⟩
theorem te_rev {i : Nat} {Ts : List Steps} (hi : σ[i]? = some (some v)) (hT : TastesAt K C H v Ts) : ∀ Q' : VK, (∀ v H2, Ex H H2 → TastesAt K C H2 v Ts.reverse → Q' v H2) → tRevL K (tVar i) σ H Q' := fun Q' q => by
  obtain ⟨a, vs, rfl, t1, t2, t3⟩ := hT
  refine ⟨_, hi, a, vs, rfl, t1, fun p hp => q _ _ (Ex.new hp) ⟨p, vs.reverse, rfl, SqL.of upd_same, by rw [List.length_reverse, List.length_reverse, t2], fun i T hT => ?_⟩⟩
  have il : i < Ts.length := by
    have := (List.getElem?_eq_some_iff.mp hT).1
    rwa [List.length_reverse] at this
  rw [List.getElem?_reverse il] at hT
  obtain ⟨y, k1, k2⟩ := t3 _ T hT
  exact ⟨y, by rw [List.getElem?_reverse (by omega), t2]; exact k1, k2.mono (Ex.new hp)⟩
theorem ed_deal {i : Nat} {hs dx : Addr} {Ts : List Steps} (hi : σ[i]? = some (some (.ref hs))) (hins : H hs = some (.ins CH dx [])) (good : ∀ T ∈ Ts, Good T) (h1 : 1 ≤ Ts.length) (h8 : Ts.length ≤ 8)
    (ha : ∀ H1, Ex H H1 → ∀ Q' : VK, (∀ v H2, Ex H1 H2 → TastesAt K C H2 v Ts → Q' v H2) → te σ H1 Q') : EvD K (tMeth CH "deal" (spDeal K C CH) [] E0 (tVar i) (tCons te tNil)) σ H (.list ((alsOf (dealF Ts) Ts.length).map pieceD)) := fun H1 e1 Q q =>
  te_deal hi (e1 _ _ hins) good h1 h8 (ha H1 e1) fun pc H' _ e2 hd => q _ H' e2 (hd.pieces (deal_ok good h1 h8).perm).data
/-- pieces of new lists -/
def NewPieces (K : PySem.W.Frag) (H0 H : Hp) (pc : Addr) (als : List (Rat × Rat)) : Prop := ∃ vs, H pc = some (.lst vs) ∧ vs.length = als.length ∧ ∀ (i : Nat) x, als[i]? = some x → ∃ q y, vs[i]? = some (.ref q) ∧ H0 q = none ∧ H q = some (.lst [y]) ∧ Dp K H y (spanD x)
theorem q_found {i j l : Nat} {vs : List Nat} {pc : Addr} {als : List (Rat × Rat)} (hl : σ[l]? = some (some (.ref pc))) (hP : PiecesAt K H pc als) (h8 : als.length ≤ 8) (hw : ∀ x, wipe ((wipe σ vs).set j (some x)) vs = wipe σ vs) (hj : j < σ.length)
    (k : ∀ fp H1, H fp = none → Ex H H1 → NewPieces K H H1 fp als → tz D (σ.set i (some (.ref fp))) H1) : tSeq (tAsg (tLc (iList K (tVar l)) (gName j) tYes (tCB (rListS K) (tCons (tVar j) tNil)) vs) (gName i)) tz D σ H := by
  obtain ⟨xs, hx, xl, hxs⟩ := hP
  show tLc _ _ _ _ vs σ H (fun x H1 => gName i x σ H1 (tz D))
  refine ⟨_, hl, pc, rfl, ⟨xs, SqL.of hx⟩, fun Dl hD => ?_⟩
  refine lc_list (xs := xs) (fun i H' => Ex H H' ∧ ∃ acc, H' Dl = some (.lst acc) ∧ acc.length = i ∧ ∀ (m : Nat) x, m < i → als[m]? = some x → ∃ q y, acc[m]? = some (.ref q) ∧ H q = none ∧ q ≠ Dl ∧ H' q = some (.lst [y]) ∧ Dp K H' y (spanD x))
    ⟨Ex.new hD, [], upd_same, rfl, fun m T h => absurd h (Nat.not_lt_zero m)⟩ (fun i H' _ c => SqL.of (c.1 _ _ hx)) (fun i v H' hi c => ⟨hw v, ?_⟩) fun H' c => ?_
  · obtain ⟨c1, acc, c2, c3, c4⟩ := c
    have hi2 : i < als.length := by
      rw [← xl]
      exact (List.getElem?_eq_some_iff.mp hi).1
    obtain ⟨q, y, k1, k2, k3⟩ := hxs i _ (List.getElem?_eq_getElem hi2)
    obtain rfl := Option.some.inj (hi.symm.trans k1)
    refine et_yes (σ := (wipe σ vs).set j (some (V.ref q))) H' (Ex.refl H') _ fun H3 e3 => ?_
    have e03 := c1.trans e3
    refine ⟨.ref q, by rw [List.getElem?_set_self (by rw [wipe_length]; exact hj)], q, [y], rfl, .inl (SqL.of (e03 _ _ k2)), fun l hl => ?_⟩
    have e34 : Ex H3 (L2.upd H3 l (.lst [y])) := Ex.new hl
    have d3 := e3 _ _ c2
    have d4 := e34 _ _ d3
    have lD : l ≠ Dl := fun z => by
      rw [z, d3] at hl
      cases hl
    refine ⟨acc, d4, sz_lt (by omega), Ex.mut (e03.trans e34) hD, acc ++ [.ref l], upd_same, by rw [List.length_append, c3]; rfl, fun m x hm hm' => ?_⟩
    rcases Nat.lt_or_ge m i with z | z
    · obtain ⟨q', y', g1, g2, g3, g4, g5⟩ := c4 m x z hm'
      exact ⟨q', y', by rw [List.getElem?_append_left (by omega)]; exact g1, g2, g3, by rw [upd_ne g3]; exact e34 _ _ (e3 _ _ g4), Dp.upd d4 (n := 2) rfl ((g5.mono e3).mono e34)⟩
    · obtain rfl : m = i := by omega
      rw [List.getElem?_eq_getElem hi2] at hm'
      cases hm'
      exact ⟨l, y, by rw [List.getElem?_append_right (by omega), c3, Nat.sub_self]; rfl, fresh_back e03 hl, lD, by rw [upd_ne lD]; exact upd_same, Dp.upd d4 (n := 2) rfl ((k3.mono e03).mono e34)⟩
  · obtain ⟨c1, acc, c2, c3, c4⟩ := c
    rw [xl] at c3 c4
    refine k Dl H' hD c1 ⟨acc, c2, c3, fun i x hi => ?_⟩
    obtain ⟨q, y, g1, g2, _, g3, g4⟩ := c4 i x (List.getElem?_eq_some_iff.mp hi).1 hi
    exact ⟨q, y, g1, g2, g3, g4⟩
/-! ### the spoilt lists -/
open Classical in
noncomputable def noS (vs : List V) (H : Hp) : Hp := fun b => if V.ref b ∈ vs then none else H b
theorem noS_ne {vs : List V} {b : Addr} (h : ¬ V.ref b ∈ vs) : noS vs H b = H b := by
  unfold noS
  rw [if_neg h]
theorem ex_noS {vs : List V} (e : Ex H0 H) (h : ∀ b, V.ref b ∈ vs → H0 b = none) : Ex H0 (noS vs H) := fun b o hb => by
  rw [noS_ne (fun q => by rw [h b q] at hb; cases hb)]
  exact e b o hb
theorem sqt_noS {vs : List V} (h : ∀ b, V.ref b ∈ vs → ∃ ys, H b = some (.lst ys)) : ∀ a ys, SqT K H a ys → SqT K (noS vs H) a ys := fun a ys hs => by
  have hne : ∀ o, H a = some o → (∀ zs, o ≠ .lst zs) → noS vs H a = some o := fun o e z => by
    rw [noS_ne]
    · exact e
    · intro q
      obtain ⟨xs, hx⟩ := h a q
      rw [hx] at e
      exact z xs (Option.some.inj e).symm
  rcases hs with (hs | ⟨o, hs⟩) | hs
  · exact .inl (.inl (hne _ hs fun zs q => by cases q))
  · exact .inl (.inr ⟨o, hne _ hs fun zs q => by cases q⟩)
  · exact .inr hs
theorem NewPieces.noS {vs : List V} {fp : Addr} {als : List (Rat × Rat)} (hP : NewPieces K H0 H fp als) (hf : H0 fp = none) (h0 : ∀ b, V.ref b ∈ vs → ∃ o, H0 b = some o) (h : ∀ b, V.ref b ∈ vs → ∃ ys, H b = some (.lst ys)) : PiecesAt K (noS vs H) fp als := by
  have ns : ∀ {b}, H0 b = none → ¬ V.ref b ∈ vs := fun hb q => by
    obtain ⟨o, ho⟩ := h0 _ q
    rw [hb] at ho
    cases ho
  obtain ⟨xs, h1, h2, h3⟩ := hP
  refine ⟨xs, by rw [noS_ne (ns hf)]; exact h1, h2, fun i x hi => ?_⟩
  obtain ⟨q, y, k1, k2, k3, k4⟩ := h3 i x hi
  exact ⟨q, y, k1, by rw [noS_ne (ns k2)]; exact k3, dp_keepT (sqt_noS h) 2 _ _ rfl k4⟩
/-- for x in xs: x.clear() -/
theorem q_clear {l j : Nat} {pc : Addr} {vs : List V} (hl : σ[l]? = some (some (.ref pc))) (hpc : H pc = some (.lst vs)) (hv : ∀ v ∈ vs, ∃ q ys, v = .ref q ∧ q ≠ pc ∧ H q = some (.lst ys)) (hj : j < σ.length) (h0 : ∃ x, σ = σ.set j x)
    (k : ∀ x H1, Ex (noS vs H) H1 → tz D (σ.set j x) H1) : tSeq (tFor (iList K (tVar l)) (gName j) (tDrop (tBM0 K "list" rClear (tVar j)))) tz D σ H := by
  have pS : ¬ V.ref pc ∈ vs := fun z => by
    obtain ⟨q, ys, e, k1, _⟩ := hv _ z
    cases e
    exact k1 rfl
  refine q_forLn (K := K) (a := pc) (xs := vs) (ev_var hl) (SqL.of hpc) (fun i σ' H' => (∃ x, σ' = σ.set j x) ∧ Ex (noS vs H) H' ∧ ∀ v ∈ vs, ∃ q ys, v = .ref q ∧ H' q = some (.lst ys)) (fun H1 e1 => ⟨h0, fun b o hb => ?_, fun v hv' => ?_⟩) (fun i σ' H' _ p => SqL.of (p.2.1 _ _ (by rw [noS_ne pS]; exact hpc))) (fun i x σ' H' hx p => ?_) fun σ' H' p => ?_
  · refine e1 b o ?_
    by_cases q : V.ref b ∈ vs
    · unfold noS at hb
      rw [if_pos q] at hb
      cases hb
    · rwa [noS_ne q] at hb
  · obtain ⟨q, ys, e, _, k2⟩ := hv v hv'
    exact ⟨q, ys, e, e1 _ _ k2⟩
  · obtain ⟨⟨x0, rfl⟩, p2, p3⟩ := p
    have hm := List.mem_of_getElem? hx
    obtain ⟨q, ys, rfl, hq⟩ := p3 x hm
    refine ⟨.ref q, by rw [List.getElem?_set_self (by rw [List.length_set]; exact hj)], Or.inl ⟨rfl, ys, sq_of hq⟩, q, ys, rfl, rfl, hq, ⟨_, List.set_set ..⟩, fun b o hb => ?_, fun v hv' => ?_⟩
    · have nb : b ≠ q := fun z => by
        unfold noS at hb
        rw [if_pos (by rw [z]; exact hm)] at hb
        cases hb
      rw [upd_ne nb]
      exact p2 b o hb
    · obtain ⟨q', ys', e, k2⟩ := p3 v hv'
      by_cases z : q' = q
      · exact ⟨q', [], e, by rw [z]; exact upd_same⟩
      · exact ⟨q', ys', e, by rw [upd_ne z]; exact k2⟩
  · obtain ⟨⟨x, rfl⟩, p2, _⟩ := p
    exact k x H' p2
end
end Fk
end
section
set_option Elab.async false
set_option linter.all false
set_option maxRecDepth 100000
set_option maxHeartbeats 2000000
namespace Fk
open PySem PySem.Spec PyProof.Rows L2 Evl
section
variable {K : PySem.W.Frag} {C CH : Addr} {H H' H0 : Hp} {σ : L2.St} {te ta tb tl to : TE} {t : TT} {D : Ends} {tz : TS} {v : V}
theorem q_asgX {i : Nat} (h : te σ H fun x H1 => tz D (σ.set i (some x)) H1) : tSeq (tAsg te (gName i)) tz D σ H := h
theorem q_ifDrop {b : Bool} (h : EvT t σ H b) (h1 : b = true → ∀ H1, Ex H H1 → ∀ Q : VK, (∀ v H2, Ex H1 H2 → Q v H2) → te σ H1 Q) (k : ∀ H1, Ex H H1 → tz D σ H1) : tSeq (tIfS t (tDrop te) tNext) tz D σ H :=
  q_when h (fun hb H1 e1 => h1 hb H1 e1 _ fun _ H2 e2 => k H2 (e1.trans e2)) (fun _ H1 e1 => k H1 e1)
/-- [t.steps() for t in tastes] -/
theorem ed_told {j l : Nat} {vs : List Nat} {vt : V} {Ts : List Steps} (hl : σ[l]? = some (some vt)) (hT : TastesAt K C H vt Ts) (good : ∀ T ∈ Ts, Good T) (h8 : Ts.length ≤ 8) (hw : ∀ x, wipe ((wipe σ vs).set j (some x)) vs = wipe σ vs) (hj : j < σ.length) :
    EvD K (tLc (iList K (tVar l)) (gName j) tYes (tMeth C "steps" (spSteps K C) [] E0 (tVar j) tNil) vs) σ H (toldD Ts) := fun H1 e Q k => by
  obtain ⟨a, xs, rfl, hx, xl, hxs⟩ := hT.mono e
  refine ⟨_, hl, a, rfl, ⟨xs, hx⟩, fun Dl hD => ?_⟩
  refine lc_list (xs := xs) (fun i H' => Ex H1 H' ∧ ∃ acc, H' Dl = some (.lst acc) ∧ DpAll K (hid Dl H') acc ((Ts.take i).map stepsD))
    ⟨Ex.new hD, [], upd_same, .nil⟩ (fun i H' _ c => ex_l c.1 hx) (fun i x H' hi c => ⟨hw x, ?_⟩) fun H' c => ?_
  · obtain ⟨c1, acc, c2, c3⟩ := c
    have hi2 : i < Ts.length := by
      rw [← xl]
      exact (List.getElem?_eq_some_iff.mp hi).1
    obtain ⟨y, k1, k2⟩ := hxs i _ (List.getElem?_eq_getElem hi2)
    obtain rfl := Option.some.inj (hi.symm.trans k1)
    have g := good _ (List.getElem_mem hi2)
    refine et_yes (σ := (wipe σ vs).set j (some x)) H' (Ex.refl H') _ fun H3 e3 => ?_
    have hR := ((k2.mono c1).mono e3).rows
    have hR' := hR
    obtain ⟨b, dx, fs, lr, rfl, r1, r2, r3, r4⟩ := hR'
    have acl : acc.length = i := by rw [c3.len, List.length_map, List.length_take]; omega
    refine ⟨.ref b, by rw [List.getElem?_set_self (by rw [wipe_length]; exact hj)], b, dx, fs, rfl, r1, r3 _ (by decide +kernel) (by decide +kernel), .ref b, Ts[i], rfl, hR, g.most, fun p ws H4 hp0 e4 hp hws => ?_⟩
    have d4 := e4 _ _ (e3 _ _ c2)
    have pD : p ≠ Dl := fun z => by
      rw [z, e3 _ _ c2] at hp0
      cases hp0
    refine ⟨acc, d4, sz_lt (by omega), Ex.mut ((c1.trans e3).trans e4) hD, acc ++ [.ref p], upd_same, ?_⟩
    rw [hid_upd, List.take_add_one, List.getElem?_eq_getElem hi2, List.map_append]
    refine (c3.mono (hid_mono (e3.trans e4))).app (.one (.lst (SqL.of (by rw [hid_ne pD]; exact hp)) (dps_keepT (sqt_hid d4) 2 _ _ ?_ hws)))
    rw [List.all_map]
    exact List.all_eq_true.mpr fun _ _ => rfl
  · obtain ⟨c1, acc, c2, c3⟩ := c
    rw [xl, List.take_length] at c3
    exact k _ H' c1 (.lst (SqL.of c2) (c3.mono hid_ex))
theorem ev_ixN {te : TE} (h : EvL te σ H [v]) : Ev (tOp (rIxL K) te (tC (.int 0))) σ H v := fun H1 e Q q => h H1 e _ fun p H2 _ e2 hp => ⟨p, [v], 0, v, rfl, rfl, SqL.of hp, rfl, q H2 e2⟩
theorem taste_set {tp : Addr} {Ts : List Steps} {ws : List V} {j : Nat} {y : V} (h2 : ws.length = Ts.length) (h3 : ∀ (i : Nat) T, Ts[i]? = some T → ∃ y, ws[i]? = some y ∧ TasteAt K C (hid tp H) y T) (hy : ∀ T, Ts[j]? = some T → TasteAt K C (hid tp H) y T) : TLst K C (L2.upd H tp (.lst (ws.set j y))) tp Ts := by
  refine ⟨_, upd_same, by rw [List.length_set, h2], fun i T hi => ?_⟩
  rw [hid_upd]
  have il : i < ws.length := by
    rw [h2]
    exact (List.getElem?_eq_some_iff.mp hi).1
  by_cases e : j = i
  · subst e
    exact ⟨y, by rw [List.getElem?_set_self il], hy T hi⟩
  · rw [List.getElem?_set_ne e]
    exact h3 i T hi
end
end Fk
end
section
set_option Elab.async false
set_option linter.all false
set_option maxRecDepth 100000
set_option maxHeartbeats 4000000
namespace Fk
open PySem PySem.Spec PyProof.Rows L2 Evl
section
variable {P : Program} {w : World} {K : PySem.W.Frag} {mg : Str → Option Value} {base : Heap} {C CH : Addr} {H H' : Hp} {σ : L2.St} {te ta tb tl to : TE} {D : Ends} {tz : TS} {tt t : TT} {v : V} {d : PyData} {ds : List PyData}
abbrev lLaw : Stmt := top 48
abbrev nLaw : List Str := ["_law_script", "_law_many", "_law_told", "_law_tastes", "_law_k", "_law_way", "_law_spoilt", "_law_piece_here", "_law_found", "_law_order", "_law_point", "_law_taker", "_law_steps", "_law_taste"]
theorem lc_law : FnScope nLaw ["_law_script"] (defScope lLaw) := ⟨rfl, rfl, rfl, by decide +kernel, rfl, by decide +kernel, by decide +kernel⟩
theorem listk {X : Cx} {a : Expr} {ta : TE} {pos : Pos} (K : PySem.W.Frag) {p : Pos} (ml : X.mg "list" = none) (ha : PE X a ta) (hK : X.K = K := by rfl) (hg : Gl X "list" := by rfl) (h1 : starEach [a] X.env = (false, eval a X.env) :: starEach [] X.env := by rfl) (hpl : (backTo pos (starEach [] X.env)).any (·.1) = false := by rfl) :
    PE X (.Call (.Name "list" p) [a] [] pos) (tCB (rListS K) (tCons ta tNil)) := by
  subst hK
  exact pe_callTy call_list_of hg ml boot_list (pa_cons ha pa_nil h1) (by decide) (by decide) h1 hpl
theorem pe_methH0 {X : Cx} {C : Addr} {m : Str} {k : Nat} {ps : List Str} {sp : Sp} {apos pos : Pos} {o : Expr} {ta : TE} {pl : Sem Bool} (he : PE X o ta) (c : Cls X.K C) (G : HasM X.prog X.w X.K X.mg X.base C m k ps sp) (hr : Room k X.A)
    (ht : eval (.Call (.Attribute o m apos) [] [] pos) X.env = (do
      let ov ← eval o X.env
      standAt apos.atName
      let (f, first) ← holding [ov] (getMethod ov m pl)
      callWith pos f first (backTo pos (starEach [] X.env)) (backToKw pos (keywordEach [] X.env))) := by rfl) :
    PE X (.Call (.Attribute o m apos) [] [] pos) (tMeth C m sp [] E0 ta tNil) := by
  obtain ⟨f, fd, h1, h2, h3⟩ := G
  exact pe_meth0 he c h1 h3 hr h2 .nil pass0 ht
abbrev HasMk (P : Program) (w : World) (K : PySem.W.Frag) (mg : Str → Option Value) (base : Heap) (C : Addr) (k : Nat) (ps : List Str) (sp : Sp) : Prop := ∃ f fd, Mk K C f ∧ Binds K fd ps [] ∧ FnOk P w K mg base CX0 k f fd ps sp
theorem pe_makeH {X : Cx} {C : Addr} {x : Str} {k : Nat} {ps : List Str} {sp : Sp} {p pos : Pos} {e : Expr} {es : List Expr} {t : TA} (M : HasMk X.prog X.w X.K X.mg X.base C k ps sp) (hr : Room (k + 1) X.A) (hm : X.mg x = some (.ref C)) (ha : PA X (e :: es) t) (hg : Gl X x := by rfl) (hdb : (x == ("__debug__" : Str)) = false := by decide) (he : starEach (e :: es) X.env = (false, eval e X.env) :: starEach es X.env := by rfl) (hpl : (backTo pos (starEach es X.env)).any (·.1) = false := by rfl) :
    PE X (.Call (.Name x p) (e :: es) [] pos) (tMake C sp [] E0 t) := by
  obtain ⟨f, fd, h1, h2, h3⟩ := M
  exact pe_make h1 h3 hr hg hm h2 .nil pass0 ha hdb he hpl
theorem revk {X : Cx} {e : Expr} {te : TE} {k : Nat} {p1 p2 p3 pos : Pos} (K : PySem.W.Frag) (he : PE X e te) (hK : X.K = K := by rfl) : PE X (.Subscript e (.Slice none none (some (.UnaryOp .USub (.Constant (.int 1) k p1) p2)) p3) pos) (tRevL K te) := by
  subst hK
  exact pe_revL he
/-- the callees of law -/
structure LawEnv (P : Program) (w : World) (K : PySem.W.Frag) (mg : Str → Option Value) (base : Heap) (C CH : Addr) : Prop where
  tc : TCls K C
  hc : Cls K CH
  mkT : HasMk P w K mg base C 5 ["self", "steps"] (spInit K C)
  mT : mg "Taste" = some (.ref C)
  mkH : MkN K CH
  mH : mg "Halves" = some (.ref CH)
  deal : HasM P w K mg base CH "deal" 9 ["self", "tastes"] (spDeal K C CH)
  steps : HasM P w K mg base C "steps" 1 ["self"] (spSteps K C)
  cell : Has P w K mg base "_law_cell_at" 1 ["_law_script", "_law_k"] (spP K R_cell)
  allS : Has P w K mg base "_law_all_steps" 3 ["_law_script", "_law_many"] (spAll K)
  dealt : Has P w K mg base "_law_dealt" 4 ["_law_pieces", "_law_many"] (spDealt K)
  less : Has P w K mg base "_law_less" 1 ["_law_one", "_law_other"] (spP K R_below)
  worth : Has P w K mg base "_law_worth" 4 ["_law_steps", "_law_piece_here"] (spP K R_worth)
  allR : Has P w K mg base "_law_all_right" 5 ["_law_told", "_law_order", "_law_found"] (spP K R_allright)
  len : mg "len" = none
  list : mg "list" = none
  range : mg "range" = none
  any : mg "any" = none
def spLaw (K : PySem.W.Frag) : Sp := fun vs H Q _ => ∃ (a : Addr) (ns : List Int), vs = [.ref a] ∧ SqL K H a (ns.map V.int) ∧ ns.length ≤ 63 ∧ ∀ H', Q (.bl true) H'
theorem ok_law {f : Addr} {fd : FuncData} (F : Fun K "law" "law" lLaw f fd) (E : LawEnv P w K mg base C CH) : FnOk P w K mg base CX0 10 f fd ["_law_script"] (spLaw K) := by
  refine F.ok lc_law (fun vs H Q E h => by obtain ⟨a, ns, rfl, _⟩ := h; rfl) fun cdv A outer s0 H vs Q E' hr h => ?_
  obtain ⟨a, ns, rfl, hS, h63, hQ⟩ := h
  have hr' : ∀ {k}, k ≤ 9 → Room k _ := fun h => hr.mono h
  refine ⟨_, pss_cons (ps_set (i := 1) lc_law.nd rfl (.inl rfl) (pe_op op_add pe_int (pe_op op_mod (pe_callH (E.cell.mono (k := 9) (by decide)) hr (pa2 (pv 0) pe_int)) pe_int)))
    (pss_cons (ps_if (pt_cmpR op_eq (pe_op op_mod (pe_op op_fdiv (pe_callH (E.cell.mono (k := 9) (by decide)) hr (pa2 (pv 0) pe_int)) pe_int) pe_int) pe_int (nomark _)) (pss_one (ps_set (i := 1) lc_law.nd rfl (.inl rfl) (pe_op op_add pe_int (pe_op op_mod (pe_op op_fdiv (pe_callH (E.cell.mono (k := 9) (by decide)) hr (pa2 (pv 0) pe_int)) pe_int) pe_int)))) pss_nil)
    (pss_cons (ps_set (i := 2) lc_law.nd rfl (.inl rfl) (pe_callH (E.allS.mono (k := 9) (by decide)) hr (pa2 (pv 0) (pv 1))))
    (pss_cons (ps_setLc (i := 3) (own := [("_law_steps", 12)]) (g := gName 12) (tt := tYes) (by rfl) lc_law.nd rfl rfl (sw_true rfl rfl rfl (by decide +kernel)) (pi_list (pv 2)) (blkOk_by (own := [("_law_steps", 12)]) (N := nLaw) (sc := defScope lLaw) (by decide +kernel))
        (fun _ _ _ _ _ => pg_name (i := 12) lc_law.nd rfl (Or.inl rfl)) (fun _ _ _ _ _ => pts_nil) (fun _ _ _ _ _ => pe_makeH E.mkT (hr.mono (by decide)) E.mT (pa1 (listk K E.list (pv 12)))))
    (pss_cons (ps_for PassesOwn.never rfl (pi_range2 (by rfl) E.range (pa2 pe_int (pv 1))) (pg_name (i := 4) lc_law.nd rfl (.inl rfl))
      (pss_one (ps_if (PW.pt (pw_and (eqkT K hr (ixlk K (pv 2) (pv 4)) (ixlk K (pv 2) (pe_op op_sub (pv 4) pe_int))) (pw_and1 (pt_cmpR op_eq (pe_op op_mod (pe_callH (E.cell.mono (k := 9) (by decide)) hr (pa2 (pv 0) pe_int)) pe_int) pe_int (nomark _)))))
        (pss_one (ps_asg (ixlk K (pv 3) (pe_op op_sub (pv 4) pe_int)) (pg_sub (pv 3) (pv 4) set_list))) pss_nil)))
    (pss_cons (ps_set (i := 5) lc_law.nd rfl (.inl rfl) (pe_makeN E.mkH E.mH))
    (pss_cons (ps_set (i := 6) lc_law.nd rfl (.inl rfl) (pe_methH (pv 5) E.hc E.deal hr (pa1 (pv 3))))
    (pss_cons (ps_if (PW.pt (pw_or (pt_not (pt_val (pe_callH (E.dealt.mono (k := 9) (by decide)) hr (pa2 (pv 6) (pv 1))))) (pw_or1 (pt_val (pe_callB (cr_any rfl) (by rfl) E.any boot_any (pa1 (pe_lc (own := [("_law_piece_here", 7)]) (g := gName 7) (tt := tYes) (by rfl) lc_law.nd (pi_list (pv 6)) (blkOk_by (own := [("_law_piece_here", 7)]) (N := nLaw) (sc := defScope lLaw) (by decide +kernel))
        (fun _ _ _ _ _ => pg_name (i := 7) lc_law.nd rfl (Or.inl rfl)) (fun _ _ _ _ _ => pts_nil) (fun _ _ _ _ _ => pe_cmpR op_ne (lenk K E.len (pv 7)) pe_int (nomark _))))))))) (pss_one (ps_ret pe_bl)) pss_nil)
    (pss_cons (ps_set (i := 8) lc_law.nd rfl (.inr rfl) (pe_lc (own := [("_law_piece_here", 7)]) (g := gName 7) (tt := tYes) (by rfl) lc_law.nd (pi_list (pv 6)) (blkOk_by (own := [("_law_piece_here", 7)]) (N := nLaw) (sc := defScope lLaw) (by decide +kernel))
        (fun _ _ _ _ _ => pg_name (i := 7) lc_law.nd rfl (Or.inl rfl)) (fun _ _ _ _ _ => pts_nil) (fun _ _ _ _ _ => listk K E.list (pv 7))))
    (pss_cons (ps_for PassesOwn.never rfl (pi_list (pv 6)) (pg_name (i := 7) lc_law.nd rfl (.inl rfl)) (pss_one (ps_expr (pe_bm0 PySem.F.plainAttrs_list PySem.F.slot_list_clear PySem.F.type_list_clear mt_clear (pv 7)))))
    (pss_cons (ps_if (pt_cmpR op_lt (pv 1) pe_int (nomark _)) (pss_one (ps_expr (pe_methH (pv 5) E.hc E.deal hr (pa1 (revk K (pv 3)))))) pss_nil)
    (pss_cons (ps_if (PW.pt (pw_or (PW.pt (pw_and (pt_cmpR op_lt (pv 1) pe_int (nomark _)) (pw_and1 (pt_cmpR (op_neD hr.units) (pe_methH (pv 5) E.hc E.deal hr (pa1 (pv 3))) (pv 8) (nomark _))))) (pw_or1 (pt_cmpR (op_neD hr.units) (pe_lc (own := [("_law_taste", 13)]) (g := gName 13) (tt := tYes) (by rfl) lc_law.nd (pi_list (pv 3)) (blkOk_by (own := [("_law_taste", 13)]) (N := nLaw) (sc := defScope lLaw) (by decide +kernel))
        (fun _ _ _ _ _ => pg_name (i := 13) lc_law.nd rfl (Or.inl rfl)) (fun _ _ _ _ _ => pts_nil) (fun _ _ _ _ _ => pe_methH0 (pv 13) E.tc.cl (E.steps.mono (k := 9) (by decide)) hr)) (pv 2) (nomark _))))) (pss_one (ps_ret pe_bl)) pss_nil)
    (pss_cons (ps_set (i := 9) lc_law.nd rfl (.inl rfl) (pe_lst pa_nil))
    (pss_cons (ps_set (i := 10) lc_law.nd rfl (.inr rfl) (pe_tup (pa2 pe_int pe_int)))
    (pss_cons (ps_while PassesOwn.never (pt_cmpR op_lt (lenk K E.len (pv 9)) (pv 1) (nomark _))
      (pss_cons (ps_set (i := 11) lc_law.nd rfl (.inl rfl) (ixlk K (pe_lc (own := [("_law_k", 4)]) (g := gName 4) (by rfl) lc_law.nd (pi_range1 (by rfl) E.range (pa1 (pv 1))) (blkOk_by (own := [("_law_k", 4)]) (N := nLaw) (sc := defScope lLaw) (by decide +kernel))
          (fun _ _ _ _ _ => pg_name (i := 4) lc_law.nd rfl (Or.inl rfl)) (fun _ _ _ _ _ => pts_one (eqkT K hr (ixk K (ixlk K (ixlk K (pv 8) (pv 4)) pe_int) pe_int) (pv 10))) (fun _ _ _ _ _ => pv 4)) pe_int))
      (pss_cons (ps_expr (pe_bm PySem.F.plainAttrs_list PySem.F.slot_list_append PySem.F.type_list_append mt_append (pv 9) (pa1 (pv 11))))
      (pss_cons (ps_set (i := 10) lc_law.nd rfl (.inr rfl) (ixk K (ixlk K (ixlk K (pv 8) (pv 11)) pe_int) pe_int))
      (pss_one (ps_if (pt_val (pe_callH (E.less.mono (k := 9) (by decide)) hr (pa2 (pe_callH (E.worth.mono (k := 9) (by decide)) hr (pa2 (ixlk K (pv 2) (pv 11)) (ixlk K (pv 8) (pv 11)))) (pe_tup (pa2 pe_int (pv 1)))))) (pss_one (ps_ret pe_bl)) pss_nil))))))
    (pss_one (ps_ret (pe_callH (E.allR.mono (k := 9) (by decide)) hr (pa_cons (pv 2) (pa_cons (pv 9) (pa_cons (pv 8) pa_nil)))))))))))))))))))), ?_⟩
  have hA : Dp K H (.ref a) (.list (ns.map PyData.int)) := .lst hS (ints_dps ns)
  have cellE : ∀ {k : Int} {r : L2.St} {H1 : Hp}, Ex H H1 → 0 ≤ k → Ev (tCall (spP K R_cell) [] E0 (tCons (tVar 0) (tCons (tC (.int k)) tNil))) (some (.ref a) :: r) H1 (.int (cellAt ns k)) := fun e hk => ev_int (ed_call (ead_cons (ed_var rfl (hA.mono e)) (ead_cons (ed_int ev_c) ead_nil)) ⟨ns, _, rfl, hk, rfl⟩)
  refine q_asg (v := .int (1 + cellAt ns 0 % 4)) (ev_op ev_c (ev_op (cellE (Ex.refl H) (by decide)) ev_c (rv_I (by decide))) rv_I0) fun H1 e1 => ?_
  obtain ⟨n, hn, n1, n8⟩ : ∃ n : Nat, (n : Int) = (if cellAt ns 0 / 4 % 8 = 1 then 5 + cellAt ns 0 / 32 % 4 else 1 + cellAt ns 0 % 4) ∧ 1 ≤ n ∧ n ≤ 8 := by
    generalize cellAt ns 0 = c
    have r1 := Int.emod_nonneg c (show (4 : Int) ≠ 0 by decide)
    have r2 := Int.emod_lt_of_pos c (show (0 : Int) < 4 by decide)
    have r3 := Int.emod_nonneg (c / 32) (show (4 : Int) ≠ 0 by decide)
    have r4 := Int.emod_lt_of_pos (c / 32) (show (0 : Int) < 4 by decide)
    split
    · exact ⟨(5 + c / 32 % 4).toNat, by omega, by omega, by omega⟩
    · exact ⟨(1 + c % 4).toNat, by omega, by omega, by omega⟩
  refine q_ifAsg (v := .int (n : Int)) (b := decide (V.int (cellAt ns 0 / 4 % 8) = V.int 1)) (et_test (ev_op (ev_op (ev_op (cellE e1 (by decide)) ev_c (rv_I ⟨by decide, by decide⟩)) ev_c (rv_I (by decide))) ev_c (rv_eq rfl))) (fun hb => ?_) (fun hb => ?_) fun H2 e2 => ?_
  · have hb : cellAt ns 0 / 4 % 8 = 1 := by
      have := of_decide_eq_true hb
      injection this
    rw [if_pos hb] at hn
    rw [hn]
    exact ev_op ev_c (ev_op (ev_op (cellE e1 (by decide)) ev_c (rv_I ⟨by decide, by decide⟩)) ev_c (rv_I (by decide))) rv_I0
  · have hb : ¬ cellAt ns 0 / 4 % 8 = 1 := fun z => of_decide_eq_false hb (by rw [z])
    rw [if_neg hb] at hn
    rw [hn]
    rfl
  have e02 := e1.trans e2
  refine q_asgX ⟨_, rfl, _, rfl, a, ns, n, rfl, hA.mono e02, n8, fun Ts vt H3 hlen good e3 hT => ?_⟩
  have e03 := e02.trans e3
  have h8 : Ts.length ≤ 8 := by omega
  have h1 : 1 ≤ Ts.length := by omega
  have dok := deal_ok good h1 h8
  refine q_tastes (C := C) (l := 2) (i := 3) (j := 12) (vs := [12]) rfl hT good h8 (fun _ => by rfl) (by show 12 < 14; decide) fun tp H4 htp0 e4 hTL => ?_
  refine q_forR2 (lo := 1) (n := (n : Int)) (ea_cons ev_c (ea_cons (ev_var rfl) ea_nil)) ⟨by decide, by decide, by omega, by omega⟩ (fun i σ H' => ∃ x4, σ = [some (.ref a), some (.int (n : Int)), some (.ref vt), some (.ref tp), x4, none, none, none, none, none, none, none, none, none] ∧ Ex H3 H' ∧ TLst K C H' tp Ts)
    (fun H5 e5 => ⟨none, rfl, e4.trans e5, hTL.mono e5⟩) (fun i σ' H' hi p => ?_) fun σ' H' p => ?_
  · obtain ⟨x4, rfl, hE, hTL⟩ := p
    have il : i + 1 < Ts.length := by omega
    have hTi : ∀ {H5 : Hp}, Ex H' H5 → EvD K (tOp (rIxL K) (tVar 2) (tVar 4)) [some (.ref a), some (.int (n : Int)), some (.ref vt), some (.ref tp), some (.int (1 + (i : Int))), none, none, none, none, none, none, none, none, none] H5 (stepsD Ts[i + 1]) := fun e => ed_ixL (ed_var rfl ((hT.mono hE).mono e)) (ev_var rfl) (at_ofG (j := i + 1) (by omega) (by rw [List.getElem?_map, List.getElem?_eq_getElem il]; rfl))
    have hTj : ∀ {H5 : Hp}, Ex H' H5 → EvD K (tOp (rIxL K) (tVar 2) (tOp (rI0 fun i j => .int (i - j)) (tVar 4) (tC (.int 1)))) [some (.ref a), some (.int (n : Int)), some (.ref vt), some (.ref tp), some (.int (1 + (i : Int))), none, none, none, none, none, none, none, none, none] H5 (stepsD Ts[i]) := fun e => ed_ixL (ed_var rfl ((hT.mono hE).mono e)) (ev_op (ev_var rfl) ev_c rv_I0) (at_ofG (j := i) (by omega) (by rw [List.getElem?_map, List.getElem?_eq_getElem (by omega)]; rfl))
    refine s_when (b := decide (Ts[i + 1] = Ts[i]) && decide (V.int (cellAt ns 7 % 2) = V.int 1)) (et_and (et_test (ev_eqD (n := 3) (m := 3) (p := Ts[i + 1] = Ts[i]) (hTi (Ex.refl _)) (hTj (Ex.refl _)) (stepsD_ok _) (stepsD_ok _) stepsD_inj)) fun _ => et_test (ev_op (ev_op (cellE (e03.trans hE) (by decide)) ev_c (rv_I (by decide))) ev_c (rv_eq rfl))) (fun hb H5 e5 => ?_) (fun hb H5 e5 => ⟨_, rfl, hE.trans e5, hTL.mono e5⟩)
    rw [Bool.and_eq_true] at hb
    have heq : Ts[i + 1] = Ts[i] := of_decide_eq_true hb.1
    obtain ⟨ws, w1, w2, w3⟩ := hTL.mono e5
    obtain ⟨y, y1, y2⟩ := w3 i Ts[i] (List.getElem?_eq_getElem (by omega))
    refine s_setL (l := tp) (xs := ws) (j := i + 1) (v := y) w1 (ev_op (ev_var rfl) (ev_op (ev_var rfl) ev_c rv_I0) (rv_ixL (K := K) (SqL.of w1) (at_ofG (j := i) (by omega) y1))) (ev_var rfl) (ev_is (ev_var rfl) (congrArg V.int (by omega))) (by omega) fun H6 e6 => ?_
    refine ⟨_, rfl, Ex.mut ((hE.trans e5).trans e6) htp0, taste_set w2 (fun m T hm => ?_) fun T hm => ?_⟩
    · obtain ⟨z, z1, z2⟩ := w3 m T hm
      exact ⟨z, z1, z2.mono (hid_mono e6)⟩
    · rw [List.getElem?_eq_getElem il] at hm
      cases hm
      rw [heq]
      exact y2.mono (hid_mono e6)
  · obtain ⟨x4, rfl, hE5, hTL5⟩ := p
    have hTA := hTL5.at
    clear hTL5
    refine q_asgX ?_
    intro hs hd0 hhs hhd hne
    have e56 : Ex H' (L2.upd (L2.upd H' hd0 (.own hs)) hs (.ins CH hd0 [])) := fun u o hu => by
      rw [upd_ne (ne_of_none hu hhs), upd_ne (ne_of_none hu hhd)]
      exact hu
    have hins : (L2.upd (L2.upd H' hd0 (.own hs)) hs (.ins CH hd0 [])) hs = some (.ins CH hd0 []) := upd_same
    replace hTA := hTA.mono e56
    have e36 := hE5.trans e56
    clear hhs hhd hne e56 hE5
    generalize L2.upd (L2.upd H' hd0 (.own hs)) hs (.ins CH hd0 []) = H6 at *
    have hT6 := hT.mono e36
    refine q_asgX (te_deal (C := C) rfl hins good h1 h8 (te_tastes rfl hTA H6 (Ex.refl _)) fun pc H7 hpc0 e7 hD => ?_)
    have hP := hD.pieces dok.perm
    generalize hL : dealF Ts = L at *
    generalize hals : alsOf L Ts.length = als at *
    have al : als.length = n := by rw [← hals, alsOf_len, hlen]
    have hdealt : Ev (tCall (spDealt K) [] E0 (tCons (tVar 6) (tCons (tVar 1) tNil))) [some (.ref a), some (.int (n : Int)), some (.ref vt), some (.ref tp), x4, some (.ref hs), some (.ref pc), none, none, none, none, none, none, none] H7 (.bl true) := fun H8 e8 Q q =>
      ⟨_, rfl, _, rfl, pc, als, L, by rw [al]; rfl, hP.mono e8, by omega, by rw [← hals]; exact alsOf_perm dok.perm, dok.chain, fun x hx => ?_, fun H9 e9 => q H9 e9⟩
    · refine q_when (b := false) (et_or (a := false) (b := false) (et_not (a := true) (et_B hdealt)) fun _ => et_B (ev_is (ev_any (bs := (als.filter fun _ => true).map fun _ => false) ?_) ?_)) (fun hb => by cases hb) fun _ H8 e8 => ?_
      · rw [List.map_map]
        exact eld_lcT (n := 1) pieceD (fun _ => true) _ (ed_var rfl hP.data) (by omega) (fun _ => by rfl) (fun _ _ _ => rfl) fun x hx y H1 e1 hy => ⟨et_yes, fun _ => ed_bl (ev_is (ev_op (ev_lenL (ed_var rfl hy)) ev_c (rv_ne rfl)) rfl)⟩
      · simp
      have e78 := e7.trans e8
      refine q_found (K := K) (l := 6) (i := 8) (j := 7) (vs := [7]) rfl (hP.mono e8) (by omega) (fun _ => by rfl) (by show 7 < 14; decide) fun fp H9 hfp0 e9 hNP => ?_
      obtain ⟨vs0, hv0, hvs⟩ := hD.slots dok.perm
      have hs9 : ∀ b, V.ref b ∈ vs0 → ∃ ys, H9 b = some (.lst ys) := fun b hb => by
        obtain ⟨q, ys, e, _, _, g⟩ := hvs _ hb
        cases e
        exact ⟨ys, e9 _ _ (e8 _ _ g)⟩
      have hFS := hNP.noS (vs := vs0) hfp0 (fun b hb => by
        obtain ⟨q, ys, e, _, _, g⟩ := hvs _ hb
        cases e
        exact ⟨_, e8 _ _ g⟩) hs9
      have e6S : Ex H6 (noS vs0 H9) := ex_noS (e78.trans e9) fun b hb => by
        obtain ⟨q, ys, e, _, g, _⟩ := hvs _ hb
        cases e
        exact g
      refine q_clear (K := K) (l := 6) (j := 7) rfl (e9 _ _ (e8 _ _ hv0)) (fun v hv => ?_) (by show 7 < 14; decide) ⟨none, rfl⟩ fun x7 H10 e10 => ?_
      · obtain ⟨q, ys, rfl, g1, _, g2⟩ := hvs v hv
        exact ⟨q, ys, rfl, g1, e9 _ _ (e8 _ _ g2)⟩
      have eb := e6S.trans e10
      have hF := (hFS.mono e10).data
      have hT10 := hT6.mono eb
      have hA10 := hTA.mono eb
      have hi10 := eb _ _ hins
      refine q_ifDrop (b := decide ((n : Int) < 4)) (et_test (ev_op (ev_var rfl) ev_c rv_I0)) (fun _ H11 e11 Q q => te_deal (C := C) (Ts := Ts.reverse) rfl (e11 _ _ hi10) (fun T hT => good T (List.mem_reverse.mp hT)) (by rw [List.length_reverse]; exact h1) (by rw [List.length_reverse]; exact h8) (te_rev rfl (hA10.mono e11)) fun _ H12 _ e12 _ => q _ H12 e12) fun H11 e11 => ?_
      have eb := eb.trans e11
      replace hF := hF.mono e11
      replace hT10 := hT10.mono e11
      replace hA10 := hA10.mono e11
      replace hi10 := e11 _ _ hi10
      refine q_when (b := false) (et_or (a := false) (b := false) (et_is (et_and (b := false) (et_test (ev_op (ev_var rfl) ev_c rv_I0)) fun _ => et_test (ev_is (ev_neD (n := 4) (m := 4) (p := True) (ed_deal (C := C) rfl hi10 good h1 h8 (te_tastes rfl hA10)) (ed_var rfl hF) (pieces_ok _) (pieces_ok _) (by rw [hL, hals]; exact ⟨fun _ => trivial, fun _ => rfl⟩)) (by simp))) (Bool.and_false _)) fun _ =>
        et_test (ev_is (ev_neD (n := 4) (m := 4) (p := True) (ed_told (C := C) (l := 3) (j := 13) (vs := [13]) rfl hA10 good h8 (fun _ => by rfl) (by show 13 < 14; decide)) (ed_var rfl hT10) (toldD_ok _) (toldD_ok _) ⟨fun _ => trivial, fun _ => rfl⟩) (by simp))) (fun hb => by cases hb) fun _ H12 e12 => ?_
      replace hF := hF.mono e12
      replace hT10 := hT10.mono e12
      refine q_asgL (el_lst ea_nil (Nat.zero_le _)) fun op H13 hop0 e13 hop => ?_
      refine q_asgD (K := K) (d := frD 0) ed_01 fun vp H14 e14 kp => ?_
      have Ll : L.length = Ts.length := by
        have := part_len Ts dok.perm
        rwa [List.length_range] at this
      refine q_while (fun m σ H' => ∃ i x4 x11 vp c, σ = [some (.ref a), some (.int (n : Int)), some (.ref vt), some (.ref tp), x4, some (.ref hs), some (.ref pc), x7, some (.ref fp), some (.ref op), some vp, x11, none, none] ∧ Ex H12 H' ∧ H' op = some (.lst (nV ((L.take i).map (·.1)))) ∧ Dp K H' vp (frD c) ∧ Chain c (L.drop i) 1 ∧ i ≤ L.length ∧ m = L.length - i) L.length
        ⟨0, x4, none, vp, 0, rfl, e13.trans e14, e14 _ _ hop, kp, dok.chain, Nat.zero_le _, rfl⟩ ?_
      rintro m σ' H15 ⟨i, y4, y11, vp, c, rfl, hE, hop, hvp, hch, hi, rfl⟩
      have li : (nV ((L.take i).map (·.1))).length = i := by rw [nV_len, List.length_map, List.length_take]; omega
      refine ⟨decide (((nV ((L.take i).map (·.1))).length : Int) < (n : Int)), et_test (ev_op (ev_len (ev_var rfl) (SqL.of hop)) (ev_var rfl) rv_I0), fun hb H16 e16 => ?_, fun hb H16 e16 => ?_⟩
      · have hi2 : i < L.length := by
          have := of_decide_eq_true hb
          omega
        obtain ⟨x, hx⟩ : ∃ x, L[i]? = some x := ⟨_, List.getElem?_eq_getElem hi2⟩
        have hxm := List.mem_of_getElem? hx
        have hdrop : L.drop i = x :: L.drop (i + 1) := by
          obtain ⟨_, rfl⟩ := List.getElem?_eq_some_iff.mp hx
          exact List.drop_eq_getElem_cons hi2
        rw [hdrop] at hch
        obtain ⟨hc1, hc2, hc3⟩ := hch
        subst hc1
        have xlt : x.1 < Ts.length := leaf_lt dok.perm hxm
        have xat : als[x.1]? = some x.2 := by
          rw [← hals]
          exact alsOf_at dok.perm hxm
        have hE16 := hE.trans e16
        have hF16 := hF.mono hE16
        have hT16 := hT10.mono hE16
        have hvp16 := hvp.mono e16
        refine ⟨_, fun _ _ z => z, ?_⟩
        have hEL : EvL (tLc (iRng1 (tCons (tVar 1) tNil)) (gName 4) (tTest (tOp (rEqD K) (tOp (rIxT K) (tOp (rIxL K) (tOp (rIxL K) (tVar 8) (tVar 4)) (tC (.int 0))) (tC (.int 0))) (tVar 10))) (tVar 4) [4]) [some (.ref a), some (.int (n : Int)), some (.ref vt), some (.ref tp), y4, some (.ref hs), some (.ref pc), x7, some (.ref fp), some (.ref op), some vp, y11, none, none] H16 [.int (x.1 : Int)] := by
          have q := el_lcR1 (te := tVar 4) (t := tTest (tOp (rEqD K) (tOp (rIxT K) (tOp (rIxL K) (tOp (rIxL K) (tVar 8) (tVar 4)) (tC (.int 0))) (tC (.int 0))) (tVar 10))) (ta := tCons (tVar 1) tNil) (j := 4) (vs := [4]) (n := (n : Int)) (σ := [some (.ref a), some (.int (n : Int)), some (.ref vt), some (.ref tp), y4, some (.ref hs), some (.ref pc), x7, some (.ref fp), some (.ref op), some vp, y11, none, none]) (H := H16)
            (fun i => decide ((alsG L i).1 = x.2.1)) (fun i => V.int (i : Int)) (ea_cons (ev_var rfl) ea_nil) ⟨by omega, by omega⟩ (fun _ => by rfl)
            (fun k H1 e hk => et_test (ev_eqD (n := 1) (m := 1) (p := (alsG L k).1 = x.2.1) (ed_ixT (ds := [frD (alsG L k).1, frD (alsG L k).2]) (ed_ixL (ds := [spanD (alsG L k)]) (ed_ixL (d := pieceD (alsG L k)) (ed_var rfl (hF16.mono e)) (ev_var rfl) (at_ofG (j := k) rfl (by
              rw [← hals]
              unfold alsOf
              rw [List.map_map, List.getElem?_map, List.getElem?_range (by omega)]
              rfl))) ev_c rfl) ev_c rfl) (ed_var rfl (hvp16.mono e)) rfl rfl frD_inj)) (fun k H1 _ _ _ => ev_var rfl)
          have eg : given (Int.toNat (n : Int)) (fun i => decide ((alsG L i).1 = x.2.1)) (fun i => V.int (i : Int)) = [.int (x.1 : Int)] := by
            unfold given
            rw [Int.toNat_natCast, ← hlen, taker_one dok.perm dok.chain hxm]
            rfl
          rw [eg] at q
          exact q
        refine q_asg (ev_ixN hEL) fun H17 e17 => ?_
        have e57 := e16.trans e17
        refine q_app (l := op) (e57 _ _ hop) (ev_var rfl) (ev_var rfl) (by rw [li]; omega) fun H18 e18 => ?_
        have hE18 := (hE.trans e57).trans e18
        have hE19 : Ex H12 (L2.upd H18 op (.lst (nV ((L.take i).map (·.1)) ++ [.int (x.1 : Int)]))) := Ex.mut hE18 hop0
        have hop19 : L2.upd H18 op (.lst (nV ((L.take i).map (·.1)) ++ [.int (x.1 : Int)])) op = some (.lst (nV ((L.take i).map (·.1)) ++ [.int (x.1 : Int)])) := upd_same
        generalize L2.upd H18 op (.lst (nV ((L.take i).map (·.1)) ++ [.int (x.1 : Int)])) = H19 at *
        have fAt : ∀ {x4 x10 : Option V} {H20 : Hp}, Ex H19 H20 → EvD K (tOp (rIxL K) (tVar 8) (tVar 11)) [some (.ref a), some (.int (n : Int)), some (.ref vt), some (.ref tp), x4, some (.ref hs), some (.ref pc), x7, some (.ref fp), some (.ref op), x10, some (.int (x.1 : Int)), none, none] H20 (pieceD x.2) := fun e =>
          ed_ixL (ed_var rfl ((hF.mono hE19).mono e)) (ev_var rfl) (at_ofG (j := x.1) rfl (by rw [List.getElem?_map, xat]; rfl))
        refine q_asgD (K := K) (d := frD x.2.2) (ed_ixT (ds := [frD x.2.1, frD x.2.2]) (ed_ixL (ds := [spanD x.2]) (fAt (Ex.refl _)) ev_c rfl) ev_c rfl) fun vq H20 e20 kq => ?_
        obtain ⟨T, hTx⟩ : ∃ T, Ts[x.1]? = some T := ⟨_, List.getElem?_eq_getElem xlt⟩
        obtain ⟨⟨G, g1, g2, g3⟩, hbel⟩ := leaf_worth good h1 h8 (by rw [hL]; exact hxm) hTx
        refine s_when (b := false) (et_B (ev_bl (ed_call (ead_cons (ed_call (ead_cons (ed_ixL (d := stepsD T) (ed_var rfl ((hT10.mono hE19).mono e20)) (ev_var rfl) (at_ofG (j := x.1) rfl (by rw [List.getElem?_map, hTx]; rfl))) (ead_cons (fAt e20) ead_nil)) ⟨T, x.2.1, x.2.2, G, rfl, good T (List.mem_of_getElem? hTx), g1, g2, g3, rfl⟩) (ead_cons (ed_tup (ead_cons (ed_int ev_c) (ead_cons (ed_int (ev_var rfl)) ead_nil)) (by show 2 ≤ 100000; decide)) ead_nil)) (by rw [← hlen]; exact hbel)))) (fun hb => by cases hb) fun _ H21 e21 => ?_
        refine ⟨L.length - (i + 1), by omega, i + 1, _, _, vq, x.2.2, rfl, (hE19.trans e20).trans e21, ?_, kq.mono e21, hc3, hi2, rfl⟩
        have en : nV ((L.take (i + 1)).map (·.1)) = nV ((L.take i).map (·.1)) ++ [.int (x.1 : Int)] := by
          rw [List.take_add_one, hx]
          unfold nV
          rw [List.map_append, List.map_append]
          rfl
        rw [en]
        exact e21 _ _ (e20 _ _ hop19)
      · have hiL : i = L.length := by
          have := of_decide_eq_false hb
          omega
        subst hiL
        rw [List.take_length] at hop
        have hE16 := hE.trans e16
        refine s_ret (v := .bl true) (ev_bl (ed_call (ead_cons (ed_var rfl (hT10.mono hE16)) (ead_cons (ed_var rfl (Dp.mono e16 (.lst (SqL.of hop) (vals_leaf L)))) (ead_cons (ed_var rfl (hF.mono hE16)) ead_nil))) ⟨Ts, als, L, 3, rfl, by omega, by omega, good, fun x hx => ?_, dok.right, rfl⟩)) fun H17 _ => hQ H17
        have q := leafOk_deal good h1 h8 (x := x) (by rw [hL]; exact hx)
        rw [hL, hals] at q
        exact q
    · rw [← hals] at hx
      obtain ⟨i, hi⟩ := List.mem_iff_getElem?.mp hx
      have q := leaf_span good h1 h8 (x := (i, x)) (by rw [hL]; exact alsOf_get dok.perm hi)
      exact q
end
end Fk
end
section
set_option Elab.async false
set_option linter.all false
set_option maxRecDepth 100000
set_option maxHeartbeats 2000000
namespace Fk
open PySem PySem.Spec PyProof.Rows L2 Evl
/-! ### what the top has written -/
structure Facts (K : PySem.W.Frag) (mg : Str → Option Value) (C CH : Addr) : Prop where
  f_lowest : FnAt K mg "lowest" sLowest ["a", "b"]
  f_whole : FnAt K mg "is_whole" sWhole ["number"]
  f_frac : FnAt K mg "is_fraction" sFrac ["thing"]
  f_plus : FnAt K mg "plus" sPlus ["one", "other"]
  f_minus : FnAt K mg "minus" sMinus ["one", "other"]
  f_times : FnAt K mg "times" sTimes ["one", "other"]
  f_over : FnAt K mg "over" sOver ["one", "other"]
  f_below : FnAt K mg "below" sBelow ["one", "other"]
  f_lesser : FnAt K mg "lesser" sLesser ["one", "other"]
  f_greater : FnAt K mg "greater" sGreater ["one", "other"]
  f_isstep : FnAt K mg "is_step" sIsStep ["thing"]
  f_check : FnAt K mg "check_steps" sCheck ["steps"]
  f_takers : FnAt K mg "check_takers" sTakers ["tastes", "least", "most"]
  f_cell : FnAt K mg "_law_cell_at" lCell ["_law_script", "_law_k"]
  f_mixed : FnAt K mg "_law_mixed" lMixed ["_law_cell", "_law_k"]
  f_low : FnAt K mg "_law_low" lLow ["_law_a", "_law_b"]
  f_less : FnAt K mg "_law_less" lLess ["_law_one", "_law_other"]
  f_sum : FnAt K mg "_law_sum" lSum ["_law_one", "_law_other"]
  f_left : FnAt K mg "_law_left" lLeft ["_law_one", "_law_other"]
  f_stepsby : FnAt K mg "_law_steps_by" lStepsBy ["_law_cell"]
  f_larea : FnAt K mg "_law_area" lArea ["_law_steps", "_law_start", "_law_end"]
  f_lworth : FnAt K mg "_law_worth" lWorth ["_law_steps", "_law_piece_here"]
  f_lfrac : FnAt K mg "_law_fraction" lFrac ["_law_thing"]
  f_lpiece : FnAt K mg "_law_piece" lPiece ["_law_piece_here"]
  f_dealt : FnAt K mg "_law_dealt" lDealt ["_law_pieces", "_law_many"]
  f_allsteps : FnAt K mg "_law_all_steps" lAllSteps ["_law_script", "_law_many"]
  f_group : FnAt K mg "_law_group_right" lGroup ["_law_told", "_law_group", "_law_found"]
  f_allright : FnAt K mg "_law_all_right" lAllRight ["_law_told", "_law_order", "_law_found"]
  m_steps : MAt K C "steps" "Taste.steps" sSteps ["self"]
  m_area : MAt K C "area" "Taste.area" sArea ["self", "start", "end"]
  m_within : MAt K C "within" "Taste.within" sWithin ["self", "start", "end"]
  m_mark : MAt K C "mark" "Taste.mark" sMark ["self", "start", "share"]
  m_deal : MAt K CH "deal" "Halves.deal" sDeal ["self", "tastes"]
  m_part : MAt K CH "part" "Halves.part" sPart ["self", "tastes", "takers", "start", "end", "pieces"]
  init : ∃ f fd, Mk K C f ∧ Fun K "__init__" "Taste.__init__" sInit f fd ∧ Binds K fd ["self", "steps"] []
  tc : TCls K C
  hc : Cls K CH
  ti : TInst K C
  mkN : MkN K CH
  gT : mg "Taste" = some (.ref C)
  gH : mg "Halves" = some (.ref CH)
  gN : GlobF K mg "NOUGHT" 0
  gO : GlobF K mg "ONE" 1
  gM : GlobI mg "MOST" 8
  gW : GlobI mg "HEAVIEST" 1000
  z_isinstance : mg "isinstance" = none
  z_int : mg "int" = none
  z_bool : mg "bool" = none
  z_tuple : mg "tuple" = none
  z_list : mg "list" = none
  z_len : mg "len" = none
  z_all : mg "all" = none
  z_any : mg "any" = none
  z_range : mg "range" = none
  z_sorted : mg "sorted" = none
  z_max : mg "max" = none
  z_min : mg "min" = none
section
variable {P : Program} {w : World} {K : PySem.W.Frag} {mg : Str → Option Value} {base : Heap} {C CH : Addr}
theorem Facts.lawEnv (T : Facts K mg C CH) : LawEnv P w K mg base C CH := by
  have lowest := T.f_lowest.has (P := P) (w := w) (base := base) fun f fd F => ok_lowest F
  have plus := T.f_plus.has (P := P) (w := w) (base := base) fun f fd F => ok_plus F lowest
  have minus := T.f_minus.has (P := P) (w := w) (base := base) fun f fd F => ok_minus F lowest
  have times := T.f_times.has (P := P) (w := w) (base := base) fun f fd F => ok_times F lowest
  have over := T.f_over.has (P := P) (w := w) (base := base) fun f fd F => ok_over F lowest
  have below := T.f_below.has (P := P) (w := w) (base := base) fun f fd F => ok_below F
  have lesser := T.f_lesser.has (P := P) (w := w) (base := base) fun f fd F => ok_lesser F below
  have greater := T.f_greater.has (P := P) (w := w) (base := base) fun f fd F => ok_greater F below
  have whole := T.f_whole.has (P := P) (w := w) (base := base) fun f fd F => ok_whole F T.z_isinstance T.z_int T.z_bool
  have frac := T.f_frac.has (P := P) (w := w) (base := base) fun f fd F => ok_frac F whole lowest T.z_isinstance T.z_tuple T.z_len
  have isstep := T.f_isstep.has (P := P) (w := w) (base := base) fun f fd F => ok_isstep F whole frac T.gW T.z_isinstance T.z_tuple T.z_len
  have check := T.f_check.has (P := P) (w := w) (base := base) fun f fd F => ok_check F isstep below T.gM T.gN T.gO T.z_isinstance T.z_list T.z_len T.z_all
  have area := T.m_area.has (P := P) (w := w) (mg := mg) (base := base) fun f fd F => ok_area F T.tc T.gN below greater lesser plus minus times
  have within := T.m_within.has (P := P) (w := w) (mg := mg) (base := base) fun f fd F => ok_within F T.tc area over
  have mark := T.m_mark.has (P := P) (w := w) (mg := mg) (base := base) fun f fd F => ok_mark F T.tc below greater over plus minus times
  have steps := T.m_steps.has (P := P) (w := w) (mg := mg) (base := base) fun f fd F => ok_steps F T.tc
  have takers := T.f_takers.has (P := P) (w := w) (base := base) fun f fd F => ok_takers F T.tc T.ti T.gT T.z_isinstance T.z_list T.z_len T.z_all
  have part := part_all (P := P) (w := w) (mg := mg) (base := base) T.m_part ⟨T.tc, T.hc, below, times, within, mark, T.z_len, T.z_sorted⟩ 3
  have deal := T.m_deal.has (P := P) (w := w) (mg := mg) (base := base) fun f fd F => ok_deal F T.hc T.gN T.gO takers part T.z_len T.z_range
  have mk : HasMk P w K mg base C 5 ["self", "steps"] (spInit K C) := by
    obtain ⟨f, fd, h1, h2, h3⟩ := T.init
    exact ⟨f, fd, h1, h3, ok_init h2 T.tc T.gN T.gO check area⟩
  have cell := T.f_cell.has (P := P) (w := w) (base := base) fun f fd F => ok_cell F T.z_len
  have mixed := T.f_mixed.has (P := P) (w := w) (base := base) fun f fd F => ok_mixed F
  have low := T.f_low.has (P := P) (w := w) (base := base) fun f fd F => ok_low F
  have less := T.f_less.has (P := P) (w := w) (base := base) fun f fd F => ok_less F
  have sum := T.f_sum.has (P := P) (w := w) (base := base) fun f fd F => ok_sum F low
  have left := T.f_left.has (P := P) (w := w) (base := base) fun f fd F => ok_left F low
  have stepsby := T.f_stepsby.has (P := P) (w := w) (base := base) fun f fd F => ok_stepsby F mixed low T.z_len T.z_range T.z_sorted
  have larea := T.f_larea.has (P := P) (w := w) (base := base) fun f fd F => ok_larea F less sum left
  have lworth := T.f_lworth.has (P := P) (w := w) (base := base) fun f fd F => ok_lworth F larea sum low
  have lfrac := T.f_lfrac.has (P := P) (w := w) (base := base) fun f fd F => ok_lfrac F low T.z_isinstance T.z_tuple T.z_len T.z_any T.z_bool T.z_int
  have lpiece := T.f_lpiece.has (P := P) (w := w) (base := base) fun f fd F => ok_lpiece F lfrac less T.z_isinstance T.z_tuple T.z_len T.z_list
  have dealt := T.f_dealt.has (P := P) (w := w) (base := base) fun f fd F => ok_dealt F lpiece T.z_isinstance T.z_len T.z_list T.z_all
  have allsteps := T.f_allsteps.has (P := P) (w := w) (base := base) fun f fd F => ok_allsteps F cell stepsby T.z_range
  have group := T.f_group.has (P := P) (w := w) (base := base) fun f fd F => ok_group F larea T.z_len T.z_range T.z_max T.z_min
  have allright := T.f_allright.has (P := P) (w := w) (base := base) fun f fd F => ok_allright F group T.z_len
  exact ⟨T.tc, T.hc, mk, T.gT, T.mkN, T.gH, deal, steps, cell, allsteps, dealt, less, lworth, allright, T.z_len, T.z_list, T.z_range, T.z_any⟩
end
/-! ### each from what the head tells -/
section
variable {K : PySem.W.Frag} {mg : Str → Option Value} {h : Heap} {x : Str} {st : Stmt} {ps : List Str} {f C : Addr} {oc : Value} {od an : Option Addr} {osl : Array (Option Value)} {kV doc pm cdv ct : Value} {i : Int}
theorem fnAt_mk (X : K.In h) (G : h.Ns mainGlobals mg) (hb : ∀ fd : FuncData, Fun K x x st f fd → Binds K fd ps []) (a : PySem.W.nsIn K mainGlobals x = some (some (.ref f)))
    (l : K.lookup f = some ⟨oc, od, .func (PySem.W.fnOf x x (defArgs st) (defBody st) (defScope st) .none kV doc pm an cdv ct), osl⟩) (c : PySem.W.codeIn K cdv x = true) (k : PySem.W.keepIn K (.ref f) = true) : FnAt K mg x st ps :=
  ⟨f, _, PySem.W.mg_of X G a, fun_mk l c k, hb _ (fun_mk l c k)⟩
theorem mAt_mk {m qual : Str} (hb : ∀ fd : FuncData, Fun K m qual st f fd → Binds K fd ps []) (a : PySem.W.findIn K (.ref C) m = some (some (.ref f))) (i : PySem.W.isFn K (.ref f) = true)
    (l : K.lookup f = some ⟨oc, od, .func (PySem.W.fnOf m qual (defArgs st) (defBody st) (defScope st) .none kV doc pm an cdv ct), osl⟩) (c : PySem.W.codeIn K cdv qual = true) (k : PySem.W.keepIn K (.ref f) = true) : MAt K C m qual st ps :=
  ⟨f, _, ⟨a, i, k⟩, fun_mk l c k, hb _ (fun_mk l c k)⟩
theorem init_mk {m qual : Str} (hb : ∀ fd : FuncData, Fun K "__init__" qual st f fd → Binds K fd ps []) (mk : PySem.W.makesIn K C = true) (kc : PySem.W.keepIn K (.ref C) = true) (a : PySem.W.findIn K (.ref C) "__init__" = some (some (.ref f))) (i : PySem.W.isFn K (.ref f) = true)
    (l : K.lookup f = some ⟨oc, od, .func (PySem.W.fnOf "__init__" qual (defArgs st) (defBody st) (defScope st) .none kV doc pm an cdv ct), osl⟩) (c : PySem.W.codeIn K cdv qual = true) (k : PySem.W.keepIn K (.ref f) = true) : ∃ f fd, Mk K C f ∧ Fun K "__init__" qual st f fd ∧ Binds K fd ps [] :=
  ⟨f, _, ⟨mk, a, i, kc⟩, fun_mk l c k, hb _ (fun_mk l c k)⟩
theorem globF_mk {q : Rat} {a : Addr} {t1 t2 : Tok} {n : Nat} (X : K.In h) (G : h.Ns mainGlobals mg) (e : q.den = 1) (hn : q.num = i) (a1 : PySem.W.nsIn K mainGlobals x = some (some (.ref a))) (l : K.lookup a = some ⟨.type "tuple", od, .seq #[.int i t1, .int 1 t2] n, osl⟩) : GlobF K mg x q := by
  subst hn
  refine ⟨a, PySem.W.mg_of X G a1, fun H => .tup (xs := [.int q.num, .int 1]) (.inr ⟨_, _, _, l, rfl, rfl, by show 2 ≤ sizeLine; decide, .cons ⟨_, rfl⟩ (.cons ⟨_, rfl⟩ .nil)⟩) (.cons (.int _) (.one ?_))⟩
  rw [e]
  exact .int _
theorem globI_mk {t : Tok} (X : K.In h) (G : h.Ns mainGlobals mg) (a1 : PySem.W.nsIn K mainGlobals x = some (some (.int i t))) : GlobI mg x i := ⟨t, PySem.W.mg_of X G a1⟩
theorem free_mk (X : K.In h) (G : h.Ns mainGlobals mg) (a1 : PySem.W.nsIn K mainGlobals x = some none) : mg x = none := PySem.W.mg_none_of X G a1
theorem law_mk {L : PySem.W.OpenLaw} {w : World} {CH fa : Addr} (X : K.In h) (G : h.Ns mainGlobals mg) (hfa : mg "law" = some (.ref fa)) (T : Facts K mg C CH) (a : PySem.W.nsIn K mainGlobals "law" = some (some (.ref f)))
    (l : K.lookup f = some ⟨oc, od, .func (PySem.W.fnOf "law" "law" (defArgs lLaw) (defBody lLaw) (defScope lLaw) .none kV doc pm an cdv ct), osl⟩) (c : PySem.W.codeIn K cdv "law" = true) (k : PySem.W.keepIn K (.ref f) = true) :
    ∃ fd : FuncData, (∀ (s : Shared) (v : Value), BindsTo s fd ⟨[v], []⟩ [("_law_script", v)]) ∧ ∀ base : Heap, K.In base → base.Ns mainGlobals mg → FnOk L.prog w K mg base CX0 10 fa fd ["_law_script"] (spLaw K) := by
  have e := hfa.symm.trans (PySem.W.mg_of X G a)
  cases e
  exact ⟨_, fun s v => .of_eq rfl, fun base _ _ => ok_law (fun_mk l c k) T.lawEnv⟩
end
end Fk
end
section
set_option linter.all false
set_option maxRecDepth 100000
set_option maxHeartbeats 0
open PySem PySem.W PyProof.Rows in
open_top fkhead for PySem.Challenge.rw_fairknife_k08_whole_halves
open PySem PySem.W PyProof.Rows in
theorem PySem.Challenge.cw_fairknife_k08_whole_halves_holds : PySem.Challenge.rw_fairknife_k08_whole_halves.Holds := by
  refine fkhead ?_
  refine L2.walk_of (n := 63) (k := 10) (x := "_law_script") (CX := fun _ => L2.CX0) (sp := fun w => Fk.spLaw _) rfl (by decide) rfl ⟨rfl, by decide, by decide⟩ (fun w h Y => PySem.W.kIn_of Y) ?F (fun _ _ a ns hl _ hS => ⟨a, ns, rfl, hS, hl, fun _ => rfl⟩) (fun _ _ _ _ _ z => z)
  case F =>
    intro w mg fa h KX G hmg
    refine' Fk.law_mk KX G hmg ?T ?a ?l ?c ?k
    (case a => k_is)
    (case l => k_is)
    (case c => k_is)
    (case k => k_is)
    (case T =>
      refine' Fk.Facts.mk ?f_lowest ?f_whole ?f_frac ?f_plus ?f_minus ?f_times ?f_over ?f_below ?f_lesser ?f_greater ?f_isstep ?f_check ?f_takers ?f_cell ?f_mixed ?f_low ?f_less ?f_sum ?f_left ?f_stepsby ?f_larea ?f_lworth ?f_lfrac ?f_lpiece ?f_dealt ?f_allsteps ?f_group ?f_allright ?m_steps ?m_area ?m_within ?m_mark ?m_deal ?m_part ?init ?tc ?hc ?ti ?mkN ?gT ?gH ?gN ?gO ?gM ?gW ?z_isinstance ?z_int ?z_bool ?z_tuple ?z_list ?z_len ?z_all ?z_any ?z_range ?z_sorted ?z_max ?z_min
      (case gT =>
        refine' PySem.W.mg_of KX G ?a
        (case a => k_is))
      (case gH =>
        refine' PySem.W.mg_of KX G ?a
        (case a => k_is))
      (case gN =>
        refine' Fk.globF_mk KX G ?e ?n ?a ?l
        (case a => k_is)
        (case l => k_is)
        (case n => rfl)
        (case e => rfl))
      (case gO =>
        refine' Fk.globF_mk KX G ?e ?n ?a ?l
        (case a => k_is)
        (case l => k_is)
        (case n => rfl)
        (case e => rfl))
      (case gM =>
        refine' Fk.globI_mk KX G ?a
        (case a => k_is))
      (case gW =>
        refine' Fk.globI_mk KX G ?a
        (case a => k_is))
      (case tc =>
        refine' ⟨⟨?a, ?b, ?c, ?d⟩, ?e, ?f⟩
        (case a => k_is)
        (case b => k_is)
        (case c => k_is)
        (case d => k_is)
        (case e => (show PySem.W.findIn _ _ _ = _); k_is)
        (case f => (show PySem.W.findIn _ _ _ = _); k_is))
      (case hc =>
        refine' ⟨?a, ?b, ?c, ?d⟩
        (case a => k_is)
        (case b => k_is)
        (case c => k_is)
        (case d => k_is))
      (case ti =>
        refine' ⟨?a, ?b, ?c, ?d⟩
        (case a => k_is)
        (case b => k_is)
        (case c => k_is)
        (case d => k_is))
      (case mkN =>
        refine' ⟨?a, ?b, ?c⟩
        (case a => k_is)
        (case b => k_is)
        (case c => k_is))
      (case init =>
        refine' Fk.init_mk (m := "__init__") ?b ?p ?q ?a ?i ?l ?c ?k
        (case p => k_is)
        (case q => k_is)
        (case a => k_is)
        (case i => k_is)
        (case l => k_is)
        (case c => k_is)
        (case k => k_is)
        (case b => exact fun fd F => F.binds (ps := ["self", "steps"]) fun _ _ _ _ _ _ us hl => match us, hl with | [_, _], _ => rfl))
      (case f_lowest =>
        refine' Fk.fnAt_mk KX G ?b ?a ?l ?c ?k
        (case a => k_is)
        (case l => k_is)
        (case c => k_is)
        (case k => k_is)
        (case b => exact fun fd F => F.binds (ps := ["a", "b"]) fun _ _ _ _ _ _ us hl => match us, hl with | [_, _], _ => rfl))
      (case f_whole =>
        refine' Fk.fnAt_mk KX G ?b ?a ?l ?c ?k
        (case a => k_is)
        (case l => k_is)
        (case c => k_is)
        (case k => k_is)
        (case b => exact fun fd F => F.binds (ps := ["number"]) fun _ _ _ _ _ _ us hl => match us, hl with | [_], _ => rfl))
      (case f_frac =>
        refine' Fk.fnAt_mk KX G ?b ?a ?l ?c ?k
        (case a => k_is)
        (case l => k_is)
        (case c => k_is)
        (case k => k_is)
        (case b => exact fun fd F => F.binds (ps := ["thing"]) fun _ _ _ _ _ _ us hl => match us, hl with | [_], _ => rfl))
      (case f_plus =>
        refine' Fk.fnAt_mk KX G ?b ?a ?l ?c ?k
        (case a => k_is)
        (case l => k_is)
        (case c => k_is)
        (case k => k_is)
        (case b => exact fun fd F => F.binds (ps := ["one", "other"]) fun _ _ _ _ _ _ us hl => match us, hl with | [_, _], _ => rfl))
      (case f_minus =>
        refine' Fk.fnAt_mk KX G ?b ?a ?l ?c ?k
        (case a => k_is)
        (case l => k_is)
        (case c => k_is)
        (case k => k_is)
        (case b => exact fun fd F => F.binds (ps := ["one", "other"]) fun _ _ _ _ _ _ us hl => match us, hl with | [_, _], _ => rfl))
      (case f_times =>
        refine' Fk.fnAt_mk KX G ?b ?a ?l ?c ?k
        (case a => k_is)
        (case l => k_is)
        (case c => k_is)
        (case k => k_is)
        (case b => exact fun fd F => F.binds (ps := ["one", "other"]) fun _ _ _ _ _ _ us hl => match us, hl with | [_, _], _ => rfl))
      (case f_over =>
        refine' Fk.fnAt_mk KX G ?b ?a ?l ?c ?k
        (case a => k_is)
        (case l => k_is)
        (case c => k_is)
        (case k => k_is)
        (case b => exact fun fd F => F.binds (ps := ["one", "other"]) fun _ _ _ _ _ _ us hl => match us, hl with | [_, _], _ => rfl))
      (case f_below =>
        refine' Fk.fnAt_mk KX G ?b ?a ?l ?c ?k
        (case a => k_is)
        (case l => k_is)
        (case c => k_is)
        (case k => k_is)
        (case b => exact fun fd F => F.binds (ps := ["one", "other"]) fun _ _ _ _ _ _ us hl => match us, hl with | [_, _], _ => rfl))
      (case f_lesser =>
        refine' Fk.fnAt_mk KX G ?b ?a ?l ?c ?k
        (case a => k_is)
        (case l => k_is)
        (case c => k_is)
        (case k => k_is)
        (case b => exact fun fd F => F.binds (ps := ["one", "other"]) fun _ _ _ _ _ _ us hl => match us, hl with | [_, _], _ => rfl))
      (case f_greater =>
        refine' Fk.fnAt_mk KX G ?b ?a ?l ?c ?k
        (case a => k_is)
        (case l => k_is)
        (case c => k_is)
        (case k => k_is)
        (case b => exact fun fd F => F.binds (ps := ["one", "other"]) fun _ _ _ _ _ _ us hl => match us, hl with | [_, _], _ => rfl))
      (case f_isstep =>
        refine' Fk.fnAt_mk KX G ?b ?a ?l ?c ?k
        (case a => k_is)
        (case l => k_is)
        (case c => k_is)
        (case k => k_is)
        (case b => exact fun fd F => F.binds (ps := ["thing"]) fun _ _ _ _ _ _ us hl => match us, hl with | [_], _ => rfl))
      (case f_check =>
        refine' Fk.fnAt_mk KX G ?b ?a ?l ?c ?k
        (case a => k_is)
        (case l => k_is)
        (case c => k_is)
        (case k => k_is)
        (case b => exact fun fd F => F.binds (ps := ["steps"]) fun _ _ _ _ _ _ us hl => match us, hl with | [_], _ => rfl))
      (case f_takers =>
        refine' Fk.fnAt_mk KX G ?b ?a ?l ?c ?k
        (case a => k_is)
        (case l => k_is)
        (case c => k_is)
        (case k => k_is)
        (case b => exact fun fd F => F.binds (ps := ["tastes", "least", "most"]) fun _ _ _ _ _ _ us hl => match us, hl with | [_, _, _], _ => rfl))
      (case f_cell =>
        refine' Fk.fnAt_mk KX G ?b ?a ?l ?c ?k
        (case a => k_is)
        (case l => k_is)
        (case c => k_is)
        (case k => k_is)
        (case b => exact fun fd F => F.binds (ps := ["_law_script", "_law_k"]) fun _ _ _ _ _ _ us hl => match us, hl with | [_, _], _ => rfl))
      (case f_mixed =>
        refine' Fk.fnAt_mk KX G ?b ?a ?l ?c ?k
        (case a => k_is)
        (case l => k_is)
        (case c => k_is)
        (case k => k_is)
        (case b => exact fun fd F => F.binds (ps := ["_law_cell", "_law_k"]) fun _ _ _ _ _ _ us hl => match us, hl with | [_, _], _ => rfl))
      (case f_low =>
        refine' Fk.fnAt_mk KX G ?b ?a ?l ?c ?k
        (case a => k_is)
        (case l => k_is)
        (case c => k_is)
        (case k => k_is)
        (case b => exact fun fd F => F.binds (ps := ["_law_a", "_law_b"]) fun _ _ _ _ _ _ us hl => match us, hl with | [_, _], _ => rfl))
      (case f_less =>
        refine' Fk.fnAt_mk KX G ?b ?a ?l ?c ?k
        (case a => k_is)
        (case l => k_is)
        (case c => k_is)
        (case k => k_is)
        (case b => exact fun fd F => F.binds (ps := ["_law_one", "_law_other"]) fun _ _ _ _ _ _ us hl => match us, hl with | [_, _], _ => rfl))
      (case f_sum =>
        refine' Fk.fnAt_mk KX G ?b ?a ?l ?c ?k
        (case a => k_is)
        (case l => k_is)
        (case c => k_is)
        (case k => k_is)
        (case b => exact fun fd F => F.binds (ps := ["_law_one", "_law_other"]) fun _ _ _ _ _ _ us hl => match us, hl with | [_, _], _ => rfl))
      (case f_left =>
        refine' Fk.fnAt_mk KX G ?b ?a ?l ?c ?k
        (case a => k_is)
        (case l => k_is)
        (case c => k_is)
        (case k => k_is)
        (case b => exact fun fd F => F.binds (ps := ["_law_one", "_law_other"]) fun _ _ _ _ _ _ us hl => match us, hl with | [_, _], _ => rfl))
      (case f_stepsby =>
        refine' Fk.fnAt_mk KX G ?b ?a ?l ?c ?k
        (case a => k_is)
        (case l => k_is)
        (case c => k_is)
        (case k => k_is)
        (case b => exact fun fd F => F.binds (ps := ["_law_cell"]) fun _ _ _ _ _ _ us hl => match us, hl with | [_], _ => rfl))
      (case f_larea =>
        refine' Fk.fnAt_mk KX G ?b ?a ?l ?c ?k
        (case a => k_is)
        (case l => k_is)
        (case c => k_is)
        (case k => k_is)
        (case b => exact fun fd F => F.binds (ps := ["_law_steps", "_law_start", "_law_end"]) fun _ _ _ _ _ _ us hl => match us, hl with | [_, _, _], _ => rfl))
      (case f_lworth =>
        refine' Fk.fnAt_mk KX G ?b ?a ?l ?c ?k
        (case a => k_is)
        (case l => k_is)
        (case c => k_is)
        (case k => k_is)
        (case b => exact fun fd F => F.binds (ps := ["_law_steps", "_law_piece_here"]) fun _ _ _ _ _ _ us hl => match us, hl with | [_, _], _ => rfl))
      (case f_lfrac =>
        refine' Fk.fnAt_mk KX G ?b ?a ?l ?c ?k
        (case a => k_is)
        (case l => k_is)
        (case c => k_is)
        (case k => k_is)
        (case b => exact fun fd F => F.binds (ps := ["_law_thing"]) fun _ _ _ _ _ _ us hl => match us, hl with | [_], _ => rfl))
      (case f_lpiece =>
        refine' Fk.fnAt_mk KX G ?b ?a ?l ?c ?k
        (case a => k_is)
        (case l => k_is)
        (case c => k_is)
        (case k => k_is)
        (case b => exact fun fd F => F.binds (ps := ["_law_piece_here"]) fun _ _ _ _ _ _ us hl => match us, hl with | [_], _ => rfl))
      (case f_dealt =>
        refine' Fk.fnAt_mk KX G ?b ?a ?l ?c ?k
        (case a => k_is)
        (case l => k_is)
        (case c => k_is)
        (case k => k_is)
        (case b => exact fun fd F => F.binds (ps := ["_law_pieces", "_law_many"]) fun _ _ _ _ _ _ us hl => match us, hl with | [_, _], _ => rfl))
      (case f_allsteps =>
        refine' Fk.fnAt_mk KX G ?b ?a ?l ?c ?k
        (case a => k_is)
        (case l => k_is)
        (case c => k_is)
        (case k => k_is)
        (case b => exact fun fd F => F.binds (ps := ["_law_script", "_law_many"]) fun _ _ _ _ _ _ us hl => match us, hl with | [_, _], _ => rfl))
      (case f_group =>
        refine' Fk.fnAt_mk KX G ?b ?a ?l ?c ?k
        (case a => k_is)
        (case l => k_is)
        (case c => k_is)
        (case k => k_is)
        (case b => exact fun fd F => F.binds (ps := ["_law_told", "_law_group", "_law_found"]) fun _ _ _ _ _ _ us hl => match us, hl with | [_, _, _], _ => rfl))
      (case f_allright =>
        refine' Fk.fnAt_mk KX G ?b ?a ?l ?c ?k
        (case a => k_is)
        (case l => k_is)
        (case c => k_is)
        (case k => k_is)
        (case b => exact fun fd F => F.binds (ps := ["_law_told", "_law_order", "_law_found"]) fun _ _ _ _ _ _ us hl => match us, hl with | [_, _, _], _ => rfl))
      (case m_steps =>
        refine' Fk.mAt_mk ?b ?a ?i ?l ?c ?k
        (case a => k_is)
        (case i => k_is)
        (case l => k_is)
        (case c => k_is)
        (case k => k_is)
        (case b => exact fun fd F => F.binds (ps := ["self"]) fun _ _ _ _ _ _ us hl => match us, hl with | [_], _ => rfl))
      (case m_area =>
        refine' Fk.mAt_mk ?b ?a ?i ?l ?c ?k
        (case a => k_is)
        (case i => k_is)
        (case l => k_is)
        (case c => k_is)
        (case k => k_is)
        (case b => exact fun fd F => F.binds (ps := ["self", "start", "end"]) fun _ _ _ _ _ _ us hl => match us, hl with | [_, _, _], _ => rfl))
      (case m_within =>
        refine' Fk.mAt_mk ?b ?a ?i ?l ?c ?k
        (case a => k_is)
        (case i => k_is)
        (case l => k_is)
        (case c => k_is)
        (case k => k_is)
        (case b => exact fun fd F => F.binds (ps := ["self", "start", "end"]) fun _ _ _ _ _ _ us hl => match us, hl with | [_, _, _], _ => rfl))
      (case m_mark =>
        refine' Fk.mAt_mk ?b ?a ?i ?l ?c ?k
        (case a => k_is)
        (case i => k_is)
        (case l => k_is)
        (case c => k_is)
        (case k => k_is)
        (case b => exact fun fd F => F.binds (ps := ["self", "start", "share"]) fun _ _ _ _ _ _ us hl => match us, hl with | [_, _, _], _ => rfl))
      (case m_deal =>
        refine' Fk.mAt_mk ?b ?a ?i ?l ?c ?k
        (case a => k_is)
        (case i => k_is)
        (case l => k_is)
        (case c => k_is)
        (case k => k_is)
        (case b => exact fun fd F => F.binds (ps := ["self", "tastes"]) fun _ _ _ _ _ _ us hl => match us, hl with | [_, _], _ => rfl))
      (case m_part =>
        refine' Fk.mAt_mk ?b ?a ?i ?l ?c ?k
        (case a => k_is)
        (case i => k_is)
        (case l => k_is)
        (case c => k_is)
        (case k => k_is)
        (case b => exact fun fd F => F.binds (ps := ["self", "tastes", "takers", "start", "end", "pieces"]) fun _ _ _ _ _ _ us hl => match us, hl with | [_, _, _, _, _, _], _ => rfl))
      (case z_isinstance =>
        refine' Fk.free_mk KX G ?a
        (case a => k_is))
      (case z_int =>
        refine' Fk.free_mk KX G ?a
        (case a => k_is))
      (case z_bool =>
        refine' Fk.free_mk KX G ?a
        (case a => k_is))
      (case z_tuple =>
        refine' Fk.free_mk KX G ?a
        (case a => k_is))
      (case z_list =>
        refine' Fk.free_mk KX G ?a
        (case a => k_is))
      (case z_len =>
        refine' Fk.free_mk KX G ?a
        (case a => k_is))
      (case z_all =>
        refine' Fk.free_mk KX G ?a
        (case a => k_is))
      (case z_any =>
        refine' Fk.free_mk KX G ?a
        (case a => k_is))
      (case z_range =>
        refine' Fk.free_mk KX G ?a
        (case a => k_is))
      (case z_sorted =>
        refine' Fk.free_mk KX G ?a
        (case a => k_is))
      (case z_max =>
        refine' Fk.free_mk KX G ?a
        (case a => k_is))
      (case z_min =>
        refine' Fk.free_mk KX G ?a
        (case a => k_is)))
end
