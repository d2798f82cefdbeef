import PyProof.Rows.All
import Wide.All
import OpenK.AllK
import Wide.FinOn
import KE.KStateDown
import Lean
import HandS.ForMost
import HandS.Defaults
import HandS.IsInst
import HandS.Deep
import HandS.Wide
import HandS.CallLocal
import HandS.Style
import HandS.TupAny
import HandS.Head0
import HandS.Head1
import HandS.Head2
import HandS.HeadEnd
import HandS.HeadHook1
import HandS.HeadHook2
import PySem.Challenge.RW_faultworks_k57_whole_lives_that_are_left
set_option Elab.async false
set_option linter.all false
set_option maxRecDepth 100000
set_option maxHeartbeats 0

/-! The plain law: ratios as pairs of ints, lives as lists of them. -/
namespace Fw
abbrev Q2 := Int × Int
def gc (a b : Int) : Int := ((Int.gcd a b : Nat) : Int)
def red (n d : Int) : Q2 := (n / gc n d, d / gc n d)
def mulQ (p q : Q2) : Q2 := red (p.1 * q.1) (p.2 * q.2)
def addQ (p q : Q2) : Q2 := red (p.1 * q.2 + q.1 * p.2) (p.2 * q.2)
def subQ (p q : Q2) : Q2 := red (p.1 * q.2 - q.1 * p.2) (p.2 * q.2)
def divQ (p q : Q2) : Q2 := red (p.1 * q.2) (p.2 * q.1)
def ltQ (p q : Q2) : Bool := decide (p.1 * q.2 < q.1 * p.2)
def powQ (b : Q2) : Nat → Q2
  | 0 => (1, 1)
  | k + 1 => mulQ (powQ b k) b
def sumQ (l : List Q2) : Q2 := l.foldl addQ (0, 1)
def l1 (q : Q2) : Q2 := (q.2 - q.1, q.2)
def it (L : List Q2) (i : Nat) : Q2 := L.getD i (0, 1)
def rate (L : List Q2) (t : Nat) : Q2 := subQ (1, 1) (divQ (it L (t + 1)) (it L t))
def lrate (L : List Q2) (t : Nat) : Q2 := l1 (divQ (it L (t + 1)) (it L t))
def left (L : List Q2) (t : Nat) : List Q2 := (L.drop t).map fun q => divQ q (it L t)

/-! ### sizes -/
structure Sz (n : Nat) (q : Q2) : Prop where
  pos : 0 < q.2
  num : q.1.natAbs < 2 ^ n
  den : q.2.natAbs < 2 ^ n
theorem pow_le {a b : Nat} (h : a ≤ b) : 2 ^ a ≤ 2 ^ b := Nat.pow_le_pow_right (by decide) h
theorem Sz.mono {n m : Nat} {q : Q2} (h : Sz n q) (e : n ≤ m) : Sz m q := ⟨h.pos, Nat.lt_of_lt_of_le h.num (pow_le e), Nat.lt_of_lt_of_le h.den (pow_le e)⟩
theorem gc_nn (n d : Int) : 0 ≤ gc n d := Int.natCast_nonneg _
theorem gc_pos {n d : Int} (h : 0 < d) : 0 < gc n d := by
  have e : Int.gcd n d ≠ 0 := fun z => by
    have := (Int.gcd_eq_zero_iff.mp z).2
    omega
  unfold gc
  omega
theorem gc_le {n d : Int} (h : 0 < d) : (gc n d).natAbs ≤ d.natAbs := by
  unfold gc
  rw [Int.natAbs_natCast]
  exact Nat.le_of_dvd (by omega) (Int.gcd_dvd_natAbs_right n d)
theorem gc_dl (n d : Int) : gc n d ∣ n := Int.gcd_dvd_left n d
theorem gc_dr (n d : Int) : gc n d ∣ d := Int.gcd_dvd_right n d
theorem red_l {n d : Int} : (red n d).1 * gc n d = n := Int.ediv_mul_cancel (gc_dl n d)
theorem red_r {n d : Int} : (red n d).2 * gc n d = d := Int.ediv_mul_cancel (gc_dr n d)
theorem abs_of_mul {x g n : Int} (h : x * g = n) (hg : 0 < g) : x.natAbs ≤ n.natAbs := by
  rw [← h, Int.natAbs_mul]
  exact Nat.le_mul_of_pos_right _ (by omega)
theorem red_pos {n d : Int} (h : 0 < d) : 0 < (red n d).2 := by
  have e := red_r (n := n) (d := d)
  have g := gc_pos (n := n) h
  have h2 : 0 < (red n d).2 * gc n d := by rw [e]; exact h
  exact Int.pos_of_mul_pos_left h2 g
theorem red_sz {n d : Int} {k : Nat} (h : 0 < d) (hn : n.natAbs < 2 ^ k) (hd : d.natAbs < 2 ^ k) : Sz k (red n d) :=
  ⟨red_pos h, Nat.lt_of_le_of_lt (abs_of_mul red_l (gc_pos h)) hn, Nat.lt_of_le_of_lt (abs_of_mul red_r (gc_pos h)) hd⟩
theorem mul_lt {i j : Int} {a b : Nat} (ha : i.natAbs < 2 ^ a) (hb : j.natAbs < 2 ^ b) : (i * j).natAbs < 2 ^ (a + b) := by
  rw [Int.natAbs_mul, Nat.pow_add]
  exact Nat.mul_lt_mul'' ha hb
theorem add_lt {i j : Int} {a b c : Nat} (ha : i.natAbs < 2 ^ a) (hb : j.natAbs < 2 ^ b) (hc : a + 1 ≤ c) (hc2 : b + 1 ≤ c) : (i + j).natAbs < 2 ^ c := by
  have h1 : (i + j).natAbs ≤ i.natAbs + j.natAbs := Int.natAbs_add_le i j
  have h2 := pow_le hc
  have h3 := pow_le hc2
  rw [Nat.pow_succ] at h2 h3
  omega
theorem sub_lt {i j : Int} {a b c : Nat} (ha : i.natAbs < 2 ^ a) (hb : j.natAbs < 2 ^ b) (hc : a + 1 ≤ c) (hc2 : b + 1 ≤ c) : (i - j).natAbs < 2 ^ c := by
  have e : i - j = i + -j := by omega
  rw [e]
  exact add_lt ha (by rw [Int.natAbs_neg]; exact hb) hc hc2
section
variable {p q : Q2} {n m : Nat}
theorem den_pos (hp : 0 < p.2) (hq : 0 < q.2) : 0 < p.2 * q.2 := Int.mul_pos hp hq
theorem Sz.mul (hp : Sz n p) (hq : Sz m q) : Sz (n + m) (mulQ p q) := red_sz (Int.mul_pos hp.pos hq.pos) (mul_lt hp.num hq.num) (mul_lt hp.den hq.den)
theorem Sz.add (hp : Sz n p) (hq : Sz m q) : Sz (n + m + 1) (addQ p q) :=
  red_sz (Int.mul_pos hp.pos hq.pos) (add_lt (mul_lt hp.num hq.den) (mul_lt hq.num hp.den) (by omega) (by omega)) (Nat.lt_of_lt_of_le (mul_lt hp.den hq.den) (pow_le (by omega)))
theorem Sz.sub (hp : Sz n p) (hq : Sz m q) : Sz (n + m + 1) (subQ p q) :=
  red_sz (Int.mul_pos hp.pos hq.pos) (sub_lt (mul_lt hp.num hq.den) (mul_lt hq.num hp.den) (by omega) (by omega)) (Nat.lt_of_lt_of_le (mul_lt hp.den hq.den) (pow_le (by omega)))
theorem Sz.div (hp : Sz n p) (hq : Sz m q) (h : 0 < q.1) : Sz (n + m) (divQ p q) := red_sz (Int.mul_pos hp.pos h) (mul_lt hp.num hq.den) (mul_lt hp.den hq.num)
theorem sz_one : Sz 1 (1, 1) := ⟨by decide, by decide, by decide⟩
theorem sz_zero : Sz 1 (0, 1) := ⟨by decide, by decide, by decide⟩
theorem Sz.pow (hp : Sz n p) : ∀ k : Nat, Sz (n * k + 1) (powQ p k)
  | 0 => sz_one
  | k + 1 => (Sz.mul (Sz.pow hp k) hp).mono (by rw [Nat.mul_succ]; omega)
theorem sum_sz_from : ∀ (l : List Q2) (f : Q2) (m : Nat), Sz m f → (∀ q ∈ l, Sz n q) → Sz (m + l.length * (n + 1)) (l.foldl addQ f)
  | [], f, m, hf, _ => hf.mono (by simp)
  | q :: l, f, m, hf, h => by
    have h1 := Sz.add hf (h q List.mem_cons_self)
    have h2 := sum_sz_from l (addQ f q) _ h1 fun z hz => h z (List.mem_cons_of_mem _ hz)
    exact h2.mono (by rw [List.length_cons, Nat.succ_mul]; omega)
theorem sum_sz {l : List Q2} (h : ∀ q ∈ l, Sz n q) : Sz (1 + l.length * (n + 1)) (sumQ l) := sum_sz_from l (0, 1) 1 sz_zero h
theorem sum_take {l : List Q2} {i : Nat} {q : Q2} (h : l[i]? = some q) : sumQ (l.take (i + 1)) = addQ (sumQ (l.take i)) q := by
  unfold sumQ
  rw [List.take_add_one, h, List.foldl_append]
  rfl
end

/-! ### values -/
def val (q : Q2) : Rat := (q.1 : Rat) / (q.2 : Rat)
theorem cast_ne {d : Int} (h : 0 < d) : ((d : Int) : Rat) ≠ 0 := fun z => by
  have := Rat.intCast_eq_zero_iff.mp z
  omega
theorem cast_pos {d : Int} (h : 0 < d) : 0 < ((d : Int) : Rat) := Rat.intCast_pos.mpr h
theorem val_red {n d : Int} (h : 0 < d) : val (red n d) = (n : Rat) / (d : Rat) := by
  have h1 := red_l (n := n) (d := d)
  have h2 := red_r (n := n) (d := d)
  have g := cast_ne (gc_pos (n := n) h)
  have r := cast_ne (red_pos (n := n) h)
  have e1 : ((red n d).1 : Rat) * (gc n d : Rat) = (n : Rat) := by rw [← Rat.intCast_mul, h1]
  have e2 : ((red n d).2 : Rat) * (gc n d : Rat) = (d : Rat) := by rw [← Rat.intCast_mul, h2]
  unfold val
  rw [← e1, ← e2]
  grind
section
variable {p q : Q2}
theorem val_mul (hp : 0 < p.2) (hq : 0 < q.2) : val (mulQ p q) = val p * val q := by
  have a := cast_ne hp
  have b := cast_ne hq
  unfold mulQ
  rw [val_red (Int.mul_pos hp hq), Rat.intCast_mul, Rat.intCast_mul]
  unfold val
  grind
theorem val_add (hp : 0 < p.2) (hq : 0 < q.2) : val (addQ p q) = val p + val q := by
  have a := cast_ne hp
  have b := cast_ne hq
  unfold addQ
  rw [val_red (Int.mul_pos hp hq), Rat.intCast_add, Rat.intCast_mul, Rat.intCast_mul, Rat.intCast_mul]
  unfold val
  grind
theorem val_sub (hp : 0 < p.2) (hq : 0 < q.2) : val (subQ p q) = val p - val q := by
  have a := cast_ne hp
  have b := cast_ne hq
  unfold subQ
  rw [val_red (Int.mul_pos hp hq), Rat.intCast_sub, Rat.intCast_mul, Rat.intCast_mul, Rat.intCast_mul]
  unfold val
  grind
theorem val_div (hp : 0 < p.2) (hq : 0 < q.2) (h : 0 < q.1) : val (divQ p q) = val p / val q := by
  have a := cast_ne hp
  have b := cast_ne hq
  have c := cast_ne h
  unfold divQ
  rw [val_red (Int.mul_pos hp h), Rat.intCast_mul, Rat.intCast_mul]
  unfold val
  grind
theorem val_l1 (hq : 0 < q.2) : val (l1 q) = 1 - val q := by
  have b := cast_ne hq
  unfold val l1
  show ((q.2 - q.1 : Int) : Rat) / (q.2 : Rat) = 1 - (q.1 : Rat) / (q.2 : Rat)
  rw [Rat.intCast_sub]
  grind
theorem div_mul_self {a b : Rat} (h : b ≠ 0) : a / b * b = a := by grind
theorem mul_lt_iff {a b c : Rat} (h : 0 < c) : a * c < b * c ↔ a < b := by
  constructor
  · intro z
    apply Decidable.byContradiction
    intro l
    have l2 : b ≤ a := by grind
    have := Rat.mul_le_mul_of_nonneg_right l2 (Rat.le_of_lt h)
    grind
  · intro z
    exact Rat.mul_lt_mul_of_pos_right z h
theorem lt_val (hp : 0 < p.2) (hq : 0 < q.2) : ltQ p q = true ↔ val p < val q := by
  have a := cast_pos hp
  have b := cast_pos hq
  unfold ltQ
  rw [decide_eq_true_iff, ← Rat.intCast_lt_intCast, Rat.intCast_mul, Rat.intCast_mul]
  have e1 : (p.1 : Rat) * (q.2 : Rat) = val p * ((p.2 : Rat) * (q.2 : Rat)) := by
    have := div_mul_self (a := (p.1 : Rat)) (cast_ne hp)
    unfold val
    grind
  have e2 : (q.1 : Rat) * (p.2 : Rat) = val q * ((p.2 : Rat) * (q.2 : Rat)) := by
    have := div_mul_self (a := (q.1 : Rat)) (cast_ne hq)
    unfold val
    grind
  rw [e1, e2]
  exact mul_lt_iff (Rat.mul_pos a b)
theorem nlt_val (hp : 0 < p.2) (hq : 0 < q.2) : ltQ p q = false ↔ val q ≤ val p := by
  have h := lt_val hp hq
  cases e : ltQ p q with
  | true =>
    have := h.mp e
    constructor
    · intro z; cases z
    · intro z; grind
  | false =>
    constructor
    · intro _
      apply Decidable.byContradiction
      intro z
      have : ltQ p q = true := h.mpr (by grind)
      rw [e] at this
      cases this
    · intro _; rfl
end

/-! ### lives -/
structure Life (L : List Q2) : Prop where
  len2 : 2 ≤ L.length
  len13 : L.length ≤ 13
  hd : it L 0 = (1, 1)
  tl : it L (L.length - 1) = (0, 1)
  cn : ∀ i, i < L.length → Int.gcd (it L i).1 (it L i).2 = 1
  dp : ∀ i, i < L.length → 0 < (it L i).2
  np : ∀ i, i + 1 < L.length → 0 < (it L i).1
  dn : ∀ i, i + 1 < L.length → ltQ (it L i) (it L (i + 1)) = false
theorem it_get {L : List Q2} {i : Nat} (h : i < L.length) : L[i]? = some (it L i) := by
  unfold it
  rw [List.getD_eq_getElem?_getD, List.getElem?_eq_getElem h]
  rfl
theorem it_out {L : List Q2} {i : Nat} (h : L.length ≤ i) : it L i = (0, 1) := by
  unfold it
  rw [List.getD_eq_getElem?_getD, List.getElem?_eq_none h]
  rfl
theorem it_of {L : List Q2} {i : Nat} {q : Q2} (h : L[i]? = some q) : it L i = q := by
  unfold it
  rw [List.getD_eq_getElem?_getD, h]
  rfl
section
variable {L : List Q2}
theorem Life.dpA (h : Life L) (i : Nat) : 0 < (it L i).2 := by
  by_cases e : i < L.length
  · exact h.dp i e
  · rw [it_out (by omega)]
    decide
theorem Life.nn (h : Life L) (i : Nat) : 0 ≤ (it L i).1 := by
  by_cases e : i + 1 < L.length
  · exact Int.le_of_lt (h.np i e)
  · by_cases e2 : i < L.length
    · have e3 : i = L.length - 1 := by omega
      rw [e3, h.tl]
      decide
    · rw [it_out (by omega)]
      decide
theorem le_of_nlt {p q : Q2} (h : ltQ p q = false) : q.1 * p.2 ≤ p.1 * q.2 := by
  unfold ltQ at h
  have := of_decide_eq_false h
  omega
theorem val_pos {q : Q2} (h1 : 0 < q.1) (h2 : 0 < q.2) : 0 < val q := by
  have a := cast_pos h1
  have b := cast_pos h2
  unfold val
  rw [Rat.div_def]
  exact Rat.mul_pos a (Rat.inv_pos.mpr b)
theorem val_zero : val (0, 1) = 0 := by decide +kernel
theorem val_one : val (1, 1) = 1 := by decide +kernel
/-- s t : the chance to work longer than t steps -/
theorem Life.pos (h : Life L) {i : Nat} (e : i + 1 < L.length) : 0 < val (it L i) := val_pos (h.np i e) (h.dpA i)
theorem Life.last (h : Life L) : val (it L (L.length - 1)) = 0 := by rw [h.tl, val_zero]
theorem Life.first (h : Life L) : val (it L 0) = 1 := by rw [h.hd, val_one]
theorem Life.vnn (h : Life L) (i : Nat) : 0 ≤ val (it L i) := by
  by_cases e : i + 1 < L.length
  · exact Rat.le_of_lt (h.pos e)
  · by_cases e2 : i < L.length
    · have e3 : i = L.length - 1 := by omega
      rw [e3, h.last]
      exact Rat.le_refl
    · rw [it_out (by omega), val_zero]
      exact Rat.le_refl
theorem Life.step (h : Life L) {i : Nat} (e : i + 1 < L.length) : val (it L (i + 1)) ≤ val (it L i) := (nlt_val (h.dpA _) (h.dpA _)).mp (h.dn i e)
theorem Life.down (h : Life L) {i : Nat} : ∀ j, i + j < L.length → val (it L (i + j)) ≤ val (it L i)
  | 0, _ => Rat.le_refl
  | j + 1, e => Rat.le_trans (h.step (i := i + j) (by omega)) (h.down j (by omega))
/-! ### what is left -/
theorem left_len (t : Nat) : (left L t).length = L.length - t := by
  unfold left
  rw [List.length_map, List.length_drop]
theorem left_it {t j : Nat} (e : t + j < L.length) : it (left L t) j = divQ (it L (t + j)) (it L t) := by
  apply it_of
  unfold left
  rw [List.getElem?_map, List.getElem?_drop, it_get e]
  rfl
theorem Life.left_val (h : Life L) {t j : Nat} (e : t + j < L.length) (e2 : t + 1 < L.length) : val (it (left L t) j) = val (it L (t + j)) / val (it L t) := by
  rw [left_it e, val_div (h.dpA _) (h.dpA _) (h.np t e2)]
theorem Life.left_pos (h : Life L) {t : Nat} (e2 : t + 1 < L.length) (j : Nat) : 0 < (it (left L t) j).2 := by
  by_cases e : t + j < L.length
  · rw [left_it e]
    exact red_pos (Int.mul_pos (h.dpA _) (h.np t e2))
  · rw [it_out (by rw [left_len]; omega)]
    decide
theorem red_same {n : Int} (h : 0 < n) : red n n = (1, 1) := by
  have e : gc n n = n := by
    unfold gc
    rw [Int.gcd_self]
    omega
  unfold red
  rw [e, Int.ediv_self (by omega)]
theorem red_nil {n : Int} (h : 0 < n) : red 0 n = (0, 1) := by
  have e : gc 0 n = n := by
    unfold gc
    rw [Int.gcd_zero_left]
    omega
  unfold red
  rw [e, Int.ediv_self (by omega), Int.zero_ediv]
theorem red_gcd {n d : Int} (h : 0 < d) : Int.gcd (red n d).1 (red n d).2 = 1 := by
  have g := gc_pos (n := n) h
  have e1 := red_l (n := n) (d := d)
  have e2 := red_r (n := n) (d := d)
  have k : Int.gcd ((red n d).1 * gc n d) ((red n d).2 * gc n d) = Int.gcd n d := by rw [e1, e2]
  rw [Int.gcd_mul_right] at k
  have k2 : (gc n d).natAbs = Int.gcd n d := Int.natAbs_natCast _
  rw [k2] at k
  have k3 : 0 < Int.gcd n d := by
    have : gc n d = ((Int.gcd n d : Nat) : Int) := rfl
    omega
  exact Nat.eq_of_mul_eq_mul_right k3 (by omega)
theorem div_le {a b c : Rat} (h : 0 < c) (l : a ≤ b) : a / c ≤ b / c := by
  rw [Rat.div_def, Rat.div_def]
  exact Rat.mul_le_mul_of_nonneg_right l (Rat.le_of_lt (Rat.inv_pos.mpr h))
theorem Life.left (h : Life L) {t : Nat} (e2 : t + 1 < L.length) : Life (left L t) := by
  have len : (Fw.left L t).length = L.length - t := left_len t
  have l13 := h.len13
  refine ⟨by omega, by omega, ?_, ?_, fun i e => ?_, fun i _ => h.left_pos e2 i, fun i e => ?_, fun i e => ?_⟩
  · rw [left_it (by omega)]
    unfold divQ
    rw [Nat.add_zero, Int.mul_comm (it L t).2]
    exact red_same (Int.mul_pos (h.np t e2) (h.dpA t))
  · rw [len, left_it (by omega), show t + (L.length - t - 1) = L.length - 1 by omega, h.tl]
    unfold divQ
    rw [Int.zero_mul, Int.one_mul]
    exact red_nil (h.np t e2)
  · rw [left_it (by omega)]
    exact red_gcd (Int.mul_pos (h.dpA _) (h.np t e2))
  · rw [left_it (by omega)]
    have p1 : 0 < (it L (t + i)).1 * (it L t).2 := Int.mul_pos (h.np _ (by omega)) (h.dpA t)
    have p2 : 0 < (it L (t + i)).2 * (it L t).1 := Int.mul_pos (h.dpA _) (h.np t e2)
    have g := gc_pos (n := (it L (t + i)).1 * (it L t).2) p2
    have e1 := red_l (n := (it L (t + i)).1 * (it L t).2) (d := (it L (t + i)).2 * (it L t).1)
    unfold divQ
    exact Int.pos_of_mul_pos_left (by rw [e1]; exact p1) g
  · rw [nlt_val (h.left_pos e2 _) (h.left_pos e2 _), h.left_val (by omega) e2, h.left_val (by omega) e2]
    exact div_le (h.pos e2) (h.step (i := t + i) (by omega))
end

/-! ### the four ways of ageing; what the law asks -/
def Rt (L : List Q2) : Prop := ∀ t, t + 2 < L.length → ltQ (rate L (t + 1)) (rate L t) = false
def Av (L : List Q2) : Prop := ∀ t, 1 ≤ t → t + 1 < L.length → ltQ (powQ (it L t) (t + 1)) (powQ (it L (t + 1)) t) = false
def Nw (L : List Q2) : Prop := ∀ s t, 1 ≤ s → s ≤ t → s + t < L.length → ltQ (mulQ (it L s) (it L t)) (it L (s + t)) = false
def Mn (L : List Q2) : Prop := ∀ t, t < L.length → ltQ (mulQ (sumQ L) (it L t)) (sumQ (L.drop t)) = false
def Rt2 (L : List Q2) : Prop := ∀ t, t + 2 < L.length → ltQ (lrate L (t + 1)) (lrate L t) = false
def Av2 (L : List Q2) : Prop := ∀ t, 1 ≤ t → t < L.length → ltQ (powQ (it L t) (t + 1)) (powQ (it L (t + 1)) t) = false
def Nw2 (L : List Q2) : Prop := ∀ s t, 1 ≤ s → s ≤ t → t < L.length → ltQ (mulQ (it L s) (it L t)) (it L (s + t)) = false
def Below (A B : List Q2) : Prop := ∀ t, t < A.length → ltQ (it B t) (it A t) = false
def Falls (L : List Q2) : Prop := ∀ t, 1 ≤ t → t + 1 < L.length → Below (left L t) (left L (t - 1))
def Fresh (L : List Q2) : Prop := ∀ t, t + 1 < L.length → Below (left L t) L
def Short (L : List Q2) : Prop := ∀ t, t + 1 < L.length → ltQ (sumQ L) (sumQ (left L t)) = false
section
variable {L : List Q2}
theorem Life.div_pos (h : Life L) {t : Nat} (i : Nat) (e : t + 1 < L.length) : 0 < (divQ (it L i) (it L t)).2 := red_pos (Int.mul_pos (h.dpA _) (h.np t e))
theorem Life.rate_pos (h : Life L) {t : Nat} (e : t + 1 < L.length) : 0 < (rate L t).2 := red_pos (Int.mul_pos (by decide) (h.div_pos (t + 1) e))
theorem Life.lrate_pos (h : Life L) {t : Nat} (e : t + 1 < L.length) : 0 < (lrate L t).2 := h.div_pos (t + 1) e
theorem mul_den {p q : Q2} (hp : 0 < p.2) (hq : 0 < q.2) : 0 < (mulQ p q).2 := red_pos (Int.mul_pos hp hq)
theorem Life.rate_val (h : Life L) {t : Nat} (e : t + 1 < L.length) : val (rate L t) = 1 - val (it L (t + 1)) / val (it L t) := by
  unfold rate
  rw [val_sub (by decide) (h.div_pos _ e), val_one, val_div (h.dpA _) (h.dpA _) (h.np t e)]
theorem Life.lrate_val (h : Life L) {t : Nat} (e : t + 1 < L.length) : val (lrate L t) = 1 - val (it L (t + 1)) / val (it L t) := by
  unfold lrate
  rw [val_l1 (h.div_pos _ e), val_div (h.dpA _) (h.dpA _) (h.np t e)]
theorem rt2_iff (h : Life L) : Rt L ↔ Rt2 L := by
  have k : ∀ t, t + 2 < L.length → (ltQ (rate L (t + 1)) (rate L t) = false ↔ ltQ (lrate L (t + 1)) (lrate L t) = false) := fun t e => by
    rw [nlt_val (h.rate_pos (by omega)) (h.rate_pos (by omega)), nlt_val (h.lrate_pos (by omega)) (h.lrate_pos (by omega)), h.rate_val (by omega), h.rate_val (by omega), h.lrate_val (by omega), h.lrate_val (by omega)]
  exact ⟨fun a t e => (k t e).mp (a t e), fun a t e => (k t e).mpr (a t e)⟩
theorem le_div_iff {a b c : Rat} (h : 0 < c) : a ≤ b / c ↔ a * c ≤ b := by
  have k : b = b / c * c := by grind
  constructor
  · intro z
    have := Rat.mul_le_mul_of_nonneg_right z (Rat.le_of_lt h)
    grind
  · intro z
    apply Decidable.byContradiction
    intro l
    have l2 : b / c < a := by grind
    have := Rat.mul_lt_mul_of_pos_right l2 h
    grind
theorem div_le_iff {a b c : Rat} (h : 0 < c) : a / c ≤ b ↔ a ≤ b * c := by
  have k : a = a / c * c := by grind
  constructor
  · intro z
    have := Rat.mul_le_mul_of_nonneg_right z (Rat.le_of_lt h)
    grind
  · intro z
    apply Decidable.byContradiction
    intro l
    have l2 : b < a / c := by grind
    have := Rat.mul_lt_mul_of_pos_right l2 h
    grind
/-- the share that stays falls -/
def Fal (L : List Q2) : Prop := ∀ t, t + 2 < L.length → val (it L (t + 2)) / val (it L (t + 1)) ≤ val (it L (t + 1)) / val (it L t)
theorem rt_fal (h : Life L) : Rt L ↔ Fal L := by
  have k : ∀ t, t + 2 < L.length → (ltQ (rate L (t + 1)) (rate L t) = false ↔ val (it L (t + 2)) / val (it L (t + 1)) ≤ val (it L (t + 1)) / val (it L t)) := fun t e => by
    rw [nlt_val (h.rate_pos (by omega)) (h.rate_pos (by omega)), h.rate_val (by omega), h.rate_val (by omega)]
    constructor <;> intro z <;> grind
  exact ⟨fun a t e => (k t e).mp (a t e), fun a t e => (k t e).mpr (a t e)⟩
theorem below_left (h : Life L) {t : Nat} (e : t + 2 < L.length) : Below (left L (t + 1)) (left L t) ↔ ∀ j, t + 1 + j < L.length → val (it L (t + 1 + j)) / val (it L (t + 1)) ≤ val (it L (t + j)) / val (it L t) := by
  have k : ∀ j, t + 1 + j < L.length → (ltQ (it (left L t) j) (it (left L (t + 1)) j) = false ↔ val (it L (t + 1 + j)) / val (it L (t + 1)) ≤ val (it L (t + j)) / val (it L t)) := fun j ej => by
    rw [nlt_val (h.left_pos (by omega) _) (h.left_pos (by omega) _), h.left_val (by omega) (by omega), h.left_val (by omega) (by omega)]
  have n : (left L (t + 1)).length = L.length - (t + 1) := left_len _
  exact ⟨fun a j ej => (k j ej).mp (a j (by omega)), fun a j ej => (k j (by omega)).mpr (a j (by omega))⟩
theorem rat_mul_le {a b c d : Rat} (h1 : a ≤ b) (h2 : c ≤ d) (hc : 0 ≤ c) (hb : 0 ≤ b) : a * c ≤ b * d :=
  Rat.le_trans (Rat.mul_le_mul_of_nonneg_right h1 hc) (Rat.mul_le_mul_of_nonneg_left h2 hb)
theorem div_nn {a b : Rat} (ha : 0 ≤ a) (hb : 0 < b) : 0 ≤ a / b := by
  rw [Rat.div_def]
  exact Rat.mul_nonneg ha (Rat.le_of_lt (Rat.inv_pos.mpr hb))
theorem fal_mono (h : Life L) (a : Fal L) {t : Nat} : ∀ j, t + j + 1 < L.length → val (it L (t + j + 1)) / val (it L (t + j)) ≤ val (it L (t + 1)) / val (it L t)
  | 0, _ => Rat.le_refl
  | j + 1, e => Rat.le_trans (a (t + j) (by omega)) (fal_mono h a j (by omega))
theorem falls_iff (h : Life L) : Rt L ↔ Falls L := by
  rw [rt_fal h]
  constructor
  · intro a t e1 e2
    obtain ⟨u, rfl⟩ : ∃ u, t = u + 1 := ⟨t - 1, by omega⟩
    show Below (left L (u + 1)) (left L u)
    rw [below_left h (by omega)]
    intro j ej
    -- s(u+1+j) / s(u+1) <= s(u+j) / s(u), from s(u+j+1) / s(u+j) <= s(u+1) / s(u)
    have p0 := h.pos (i := u) (by omega)
    have p1 := h.pos (i := u + 1) (by omega)
    have k := fal_mono h a (t := u) j (by omega)
    have ei : u + 1 + j = u + j + 1 := by omega
    rw [ei]
    by_cases z : u + j + 1 < L.length
    · have p2 := h.pos (i := u + j) (by omega)
      rw [div_le_iff p2] at k
      rw [div_le_iff p1]
      grind
    · omega
  · intro a t e
    have k := (below_left h (t := t) (by omega)).mp (a (t + 1) (by omega) (by omega)) 1 (by omega)
    exact k
theorem nw_val (h : Life L) (s t : Nat) : ltQ (mulQ (it L s) (it L t)) (it L (s + t)) = false ↔ val (it L (s + t)) ≤ val (it L s) * val (it L t) := by
  rw [nlt_val (mul_den (h.dpA _) (h.dpA _)) (h.dpA _), val_mul (h.dpA _) (h.dpA _)]
theorem fresh_val (h : Life L) {t : Nat} (e : t + 1 < L.length) : Below (left L t) L ↔ ∀ j, t + j < L.length → val (it L (t + j)) ≤ val (it L j) * val (it L t) := by
  have k : ∀ j, t + j < L.length → (ltQ (it L j) (it (left L t) j) = false ↔ val (it L (t + j)) ≤ val (it L j) * val (it L t)) := fun j ej => by
    rw [nlt_val (h.dpA _) (h.left_pos (by omega) _), h.left_val (by omega) (by omega), div_le_iff (h.pos e)]
  have n : (left L t).length = L.length - t := left_len _
  exact ⟨fun a j ej => (k j ej).mp (a j (by omega)), fun a j ej => (k j (by omega)).mpr (a j (by omega))⟩
theorem fresh_iff (h : Life L) : Nw L ↔ Fresh L := by
  constructor
  · intro a t e
    rw [fresh_val h e]
    intro j ej
    by_cases t0 : t = 0
    · subst t0
      rw [h.first, Rat.mul_one, Nat.zero_add]
      exact Rat.le_refl
    · by_cases j0 : j = 0
      · subst j0
        rw [h.first, Rat.one_mul, Nat.add_zero]
        exact Rat.le_refl
      · by_cases l : j ≤ t
        · have k := (nw_val h j t).mp (a j t (by omega) l (by omega))
          rw [Nat.add_comm]
          exact k
        · have k := (nw_val h t j).mp (a t j (by omega) (by omega) (by omega))
          rw [Rat.mul_comm]
          exact k
  · intro a s t e1 e2 e3
    rw [nw_val h]
    have k := (fresh_val h (t := s) (by omega)).mp (a s (by omega)) t e3
    rw [Rat.mul_comm]
    exact k
theorem nw2_iff (h : Life L) : Nw L ↔ Nw2 L := by
  constructor
  · intro a s t e1 e2 e3
    by_cases z : s + t < L.length
    · exact a s t e1 e2 z
    · rw [nw_val h, it_out (i := s + t) (by omega), val_zero]
      exact Rat.mul_nonneg (h.vnn s) (h.vnn t)
  · intro a s t e1 e2 e3
    exact a s t e1 e2 (by omega)
theorem mul_zero_q {q : Q2} (h : 0 < q.2) : mulQ q (0, 1) = (0, 1) := by
  unfold mulQ
  show red (q.1 * 0) (q.2 * 1) = (0, 1)
  rw [Int.mul_zero, Int.mul_one]
  exact red_nil h
theorem pow_pos_q {q : Q2} (h : 0 < q.2) : ∀ k, 0 < (powQ q k).2
  | 0 => Int.one_pos
  | k + 1 => red_pos (Int.mul_pos (pow_pos_q h k) h)
theorem pow_zero_q : ∀ k, powQ (0, 1) (k + 1) = (0, 1) := fun k => mul_zero_q (pow_pos_q (by decide) k)
theorem av2_iff (h : Life L) : Av L ↔ Av2 L := by
  constructor
  · intro a t e1 e2
    by_cases z : t + 1 < L.length
    · exact a t e1 z
    · rw [show t = L.length - 1 by omega, h.tl, it_out (by omega)]
      obtain ⟨k, hk⟩ : ∃ k, L.length - 1 = k + 1 := ⟨L.length - 2, by have := h.len2; omega⟩
      rw [hk, pow_zero_q, pow_zero_q]
      decide
  · intro a t e1 e2
    exact a t e1 (by omega)
/-! ### sums -/
def sumR (l : List Rat) : Rat := l.foldr (· + ·) 0
theorem foldl_val : ∀ (l : List Q2) (f : Q2), 0 < f.2 → (∀ q ∈ l, 0 < q.2) → 0 < (l.foldl addQ f).2 ∧ val (l.foldl addQ f) = val f + sumR (l.map val)
  | [], f, hf, _ => ⟨hf, by
    show val f = val f + 0
    rw [Rat.add_zero]⟩
  | q :: l, f, hf, h => by
    have hq := h q List.mem_cons_self
    have k := foldl_val l (addQ f q) (red_pos (Int.mul_pos hf hq)) fun z hz => h z (List.mem_cons_of_mem _ hz)
    refine ⟨k.1, ?_⟩
    show val (l.foldl addQ (addQ f q)) = val f + (val q + sumR (l.map val))
    rw [k.2, val_add hf hq, Rat.add_assoc]
theorem sum_pos {l : List Q2} (h : ∀ q ∈ l, 0 < q.2) : 0 < (sumQ l).2 := (foldl_val l (0, 1) (by decide) h).1
theorem sum_val {l : List Q2} (h : ∀ q ∈ l, 0 < q.2) : val (sumQ l) = sumR (l.map val) := by
  unfold sumQ
  rw [(foldl_val l (0, 1) (by decide) h).2, val_zero, Rat.zero_add]
theorem sumR_div (c : Rat) : ∀ l : List Rat, sumR (l.map fun x => x / c) = sumR l / c
  | [] => by
    show (0 : Rat) = 0 / c
    rw [Rat.div_def, Rat.zero_mul]
  | x :: l => by
    show x / c + sumR (l.map fun x => x / c) = (x + sumR l) / c
    rw [sumR_div c l, Rat.div_def, Rat.div_def, Rat.div_def, Rat.add_mul]
theorem Life.mem_pos (h : Life L) : ∀ q ∈ L, 0 < q.2 := fun q hq => by
  obtain ⟨i, hi, e⟩ := List.mem_iff_getElem.mp hq
  have k := h.dp i hi
  rw [it_of (show L[i]? = some q by rw [List.getElem?_eq_getElem hi, e])] at k
  exact k
theorem Life.left_sum (h : Life L) {t : Nat} (e : t + 1 < L.length) : val (sumQ (Fw.left L t)) = val (sumQ (L.drop t)) / val (it L t) := by
  have hd : ∀ q ∈ L.drop t, 0 < q.2 := fun q hq => h.mem_pos q (List.mem_of_mem_drop hq)
  have hl := (h.left e).mem_pos
  rw [sum_val hl, sum_val hd, ← sumR_div]
  unfold Fw.left
  rw [List.map_map, List.map_map]
  congr 1
  refine List.map_congr_left fun q hq => ?_
  show val (divQ q (it L t)) = val q / val (it L t)
  exact val_div (hd q hq) (h.dpA t) (h.np t e)
theorem short_iff (h : Life L) : Mn L ↔ Short L := by
  have ps := sum_pos h.mem_pos
  have k : ∀ t, t + 1 < L.length → (ltQ (mulQ (sumQ L) (it L t)) (sumQ (L.drop t)) = false ↔ ltQ (sumQ L) (sumQ (Fw.left L t)) = false) := fun t e => by
    have hd : ∀ q ∈ L.drop t, 0 < q.2 := fun q hq => h.mem_pos q (List.mem_of_mem_drop hq)
    rw [nlt_val (mul_den ps (h.dpA t)) (sum_pos hd), nlt_val ps (sum_pos (h.left e).mem_pos), val_mul ps (h.dpA t), h.left_sum e, div_le_iff (h.pos e)]
  constructor
  · intro a t e
    exact (k t e).mp (a t (by omega))
  · intro a t e
    by_cases z : t + 1 < L.length
    · exact (k t z).mpr (a t z)
    · have hd : ∀ q ∈ L.drop t, 0 < q.2 := fun q hq => h.mem_pos q (List.mem_of_mem_drop hq)
      have et : t = L.length - 1 := by omega
      rw [nlt_val (mul_den ps (h.dpA t)) (sum_pos hd), val_mul ps (h.dpA t), et, h.last, Rat.mul_zero]
      have ed : L.drop (L.length - 1) = [(0, 1)] := by
        have e1 : L.length - 1 < L.length := by omega
        rw [List.drop_eq_getElem_cons e1, show L.length - 1 + 1 = L.length by omega, List.drop_length]
        have e2 := it_get e1
        rw [h.tl, List.getElem?_eq_getElem e1] at e2
        rw [Option.some.inj e2]
      rw [ed]
      show val (sumQ [(0, 1)]) ≤ 0
      have : sumQ [((0, 1) : Q2)] = (0, 1) := by decide +kernel
      rw [this, val_zero]
      exact Rat.le_refl
end
theorem Life.le_one {L : List Q2} (h : Life L) {i : Nat} (hi : i < L.length) : (it L i).1 ≤ (it L i).2 := by
  have a := cast_pos (h.dpA i)
  have k := h.down (i := 0) i (by omega)
  rw [h.first, Nat.zero_add] at k
  have b := Rat.mul_le_mul_of_nonneg_right k (Rat.le_of_lt a)
  have c : val (it L i) * ((it L i).2 : Rat) = ((it L i).1 : Rat) := div_mul_self (cast_ne (h.dpA i))
  rw [c, Rat.one_mul] at b
  exact Rat.intCast_le_intCast.mp b

/-! ### the life that the law draws -/
def sQ (b : Int) (ts : List Int) : Nat → Q2
  | 0 => (1, 1)
  | k + 1 => mulQ (sQ b ts k) (red (b - ts.getD k 0) b)
def drawn (b : Int) (ts : List Int) : List Q2 := (List.range (ts.length + 1)).map (sQ b ts) ++ [(0, 1)]
section
variable {b : Int} {ts : List Int}
structure Tops (b : Int) (ts : List Int) : Prop where
  len : ts.length ≤ 11
  low : 0 < b
  top : b ≤ 10
  mem : ∀ t ∈ ts, 0 ≤ t ∧ t < b
theorem Tops.at_ (h : Tops b ts) (k : Nat) : 0 ≤ ts.getD k 0 ∧ ts.getD k 0 < b := by
  rw [List.getD_eq_getElem?_getD]
  cases e : ts[k]? with
  | none => exact ⟨Int.le_refl 0, h.low⟩
  | some t => exact h.mem t (List.mem_of_getElem? e)
theorem red_num {n d : Int} (hn : 0 < n) (hd : 0 < d) : 0 < (red n d).1 := by
  have g := gc_pos (n := n) hd
  have e1 := red_l (n := n) (d := d)
  exact Int.pos_of_mul_pos_left (by rw [e1]; exact hn) g
theorem Tops.fac (h : Tops b ts) (k : Nat) : Sz 4 (red (b - ts.getD k 0) b) := by
  have := h.at_ k
  have h1 := h.low
  have h2 := h.top
  refine red_sz h.low ?_ ?_
  · show (b - ts.getD k 0).natAbs < 16
    omega
  · show b.natAbs < 16
    omega
theorem Tops.sz (h : Tops b ts) : ∀ k, Sz (1 + 4 * k) (sQ b ts k)
  | 0 => sz_one
  | k + 1 => (Sz.mul (h.sz k) (h.fac k)).mono (by omega)
theorem Tops.pos (h : Tops b ts) : ∀ k, 0 < (sQ b ts k).1
  | 0 => Int.one_pos
  | k + 1 => by
    have := h.at_ k
    exact red_num (Int.mul_pos (h.pos k) (red_num (by omega) h.low)) (Int.mul_pos (h.sz k).pos (h.fac k).pos)
theorem Tops.cn (h : Tops b ts) : ∀ k, Int.gcd (sQ b ts k).1 (sQ b ts k).2 = 1
  | 0 => by
    show Int.gcd 1 1 = 1
    decide
  | k + 1 => red_gcd (Int.mul_pos (h.sz k).pos (h.fac k).pos)
theorem Tops.dn (h : Tops b ts) (k : Nat) : ltQ (sQ b ts k) (sQ b ts (k + 1)) = false := by
  rw [nlt_val (h.sz k).pos (h.sz (k + 1)).pos]
  have e : val (sQ b ts (k + 1)) = val (sQ b ts k) * val (red (b - ts.getD k 0) b) := val_mul (h.sz k).pos (h.fac k).pos
  have p := val_pos (h.pos k) (h.sz k).pos
  have f : val (red (b - ts.getD k 0) b) ≤ 1 := by
    rw [val_red h.low]
    have a := h.at_ k
    have c := cast_pos h.low
    rw [div_le_iff c, Rat.one_mul]
    exact Rat.intCast_le_intCast.mpr (by omega)
  have g := Rat.mul_le_mul_of_nonneg_left f (Rat.le_of_lt p)
  rw [Rat.mul_one] at g
  rw [e]
  exact g
theorem drawn_len : (drawn b ts).length = ts.length + 2 := by
  unfold drawn
  rw [List.length_append, List.length_map, List.length_range]
  rfl
theorem drawn_it {k : Nat} (h : k ≤ ts.length) : it (drawn b ts) k = sQ b ts k := by
  apply it_of
  unfold drawn
  rw [List.getElem?_append_left (by rw [List.length_map, List.length_range]; omega), List.getElem?_map, List.getElem?_range (by omega)]
  rfl
theorem drawn_last : it (drawn b ts) (ts.length + 1) = (0, 1) := by
  apply it_of
  unfold drawn
  rw [List.getElem?_append_right (by rw [List.length_map, List.length_range]; omega), List.length_map, List.length_range, Nat.sub_self]
  rfl
theorem Tops.life (h : Tops b ts) : Life (drawn b ts) := by
  have len : (drawn b ts).length = ts.length + 2 := drawn_len
  have l11 := h.len
  have spl : ∀ i, i < (drawn b ts).length → (i ≤ ts.length ∧ it (drawn b ts) i = sQ b ts i) ∨ (i = ts.length + 1 ∧ it (drawn b ts) i = (0, 1)) := fun i hi => by
    by_cases z : i ≤ ts.length
    · exact .inl ⟨z, drawn_it z⟩
    · have e : i = ts.length + 1 := by omega
      exact .inr ⟨e, by rw [e]; exact drawn_last⟩
  refine ⟨by omega, by omega, drawn_it (Nat.zero_le _), ?_, fun i hi => ?_, fun i hi => ?_, fun i hi => ?_, fun i hi => ?_⟩
  · rw [len]
    exact drawn_last
  · rcases spl i hi with ⟨_, e⟩ | ⟨_, e⟩ <;> rw [e]
    · exact h.cn i
    · decide
  · rcases spl i hi with ⟨_, e⟩ | ⟨_, e⟩ <;> rw [e]
    · exact (h.sz i).pos
    · decide
  · rw [drawn_it (by omega)]
    exact h.pos i
  · rw [drawn_it (by omega)]
    rcases spl (i + 1) hi with ⟨_, e⟩ | ⟨_, e⟩ <;> rw [e]
    · exact h.dn i
    · rw [nlt_val (h.sz i).pos (by decide), val_zero]
      exact Rat.le_of_lt (val_pos (h.pos i) (h.sz i).pos)
theorem Tops.szs (h : Tops b ts) : ∀ q ∈ drawn b ts, Sz 50 q := fun q hq => by
  have l11 := h.len
  unfold drawn at hq
  rcases List.mem_append.mp hq with hq | hq
  · obtain ⟨k, hk, rfl⟩ := List.mem_map.mp hq
    have := List.mem_range.mp hk
    exact (h.sz k).mono (by omega)
  · have e : q = (0, 1) := by simpa using hq
    rw [e]
    exact sz_zero.mono (by decide)
end
end Fw
set_option maxHeartbeats 2000000
/-! A layer of data over HandS: a reading evaluates to data (PyData) in every heap that extends. -/
namespace Fw
open PySem PySem.Spec PyProof.Rows L2
abbrev D := PyData
abbrev Rho := List (Option PyData)
section
variable {K : PySem.W.Frag} {H H' : Hp}
theorem same_new {p : Addr} {o : HO} (h : H p = none) : Same H (upd H p o) := fun b x e => by
  rw [upd_ne (ne_of_none e h)]
  exact e
theorem same_mut {p : Addr} {o : HO} (e : Same H H') (h : H p = none) : Same H (upd H' p o) := fun b x eb => by
  rw [upd_ne (ne_of_none eb h)]
  exact e b x eb
theorem rd_same {a : Addr} {u : HO} (e : Same H H') (h : Rd H a u) : Rd H' a u := by
  rcases h with h | ⟨o, h⟩
  · exact .inl (e a _ h)
  · exact .inr ⟨o, e a _ h⟩
theorem sqL_same {a : Addr} {xs : List V} (e : Same H H') (h : SqL K H a xs) : SqL K H' a xs := by
  rcases h with h | h
  · exact .inl (rd_same e h)
  · exact .inr h
theorem sqT_same {a : Addr} {xs : List V} (e : Same H H') (h : SqT K H a xs) : SqT K H' a xs := by
  rcases h with h | h
  · exact .inl (rd_same e h)
  · exact .inr h
mutual
theorem dp_same (e : Same H H') : ∀ (d : PyData) {v : V}, Dp K H v d → Dp K H' v d
  | .none, _, h => by
    cases h
    exact .non
  | .bool b, _, h => by
    cases h
    exact .bl b
  | .int i, _, h => by
    cases h
    exact .int i
  | .str x, _, h => by
    cases h
    exact .str x
  | .list ds, _, h => by
    cases h with
    | lst hs ha => exact .lst (sqL_same e hs) (dps_same e ds ha)
  | .tuple ds, _, h => by
    cases h with
    | tup hs ha => exact .tup (sqT_same e hs) (dps_same e ds ha)
  | .dict _, _, h => by cases h
theorem dps_same (e : Same H H') : ∀ (ds : List PyData) {vs : List V}, DpAll K H vs ds → DpAll K H' vs ds
  | [], _, h => by
    cases h
    exact .nil
  | d :: ds, _, h => by
    cases h with
    | cons h1 h2 => exact .cons (dp_same e d h1) (dps_same e ds h2)
end
/-! no list within: not touched when a list is written -/
mutual
def flatD : PyData → Bool
  | .none => true
  | .bool _ => true
  | .int _ => true
  | .str _ => true
  | .list _ => false
  | .tuple ds => flatDs ds
  | .dict _ => false
def flatDs : List PyData → Bool
  | [] => true
  | d :: ds => flatD d && flatDs ds
end
theorem sqT_mut {a o : Addr} {xs ys zs : List V} (h : SqT K H a xs) (e : H o = some (.lst ys)) : SqT K (upd H o (.lst zs)) a xs := by
  rcases h with (h | ⟨ob, h⟩) | h
  · refine .inl (.inl ?_)
    rw [upd_ne (ne_of h e (by intro z; cases z))]
    exact h
  · refine .inl (.inr ⟨ob, ?_⟩)
    rw [upd_ne (ne_of h e (by intro z; cases z))]
    exact h
  · exact .inr h
mutual
theorem dp_mut {o : Addr} {ys zs : List V} (e : H o = some (.lst ys)) : ∀ (d : PyData) {v : V}, flatD d = true → Dp K H v d → Dp K (upd H o (.lst zs)) v d
  | .none, _, _, h => by
    cases h
    exact .non
  | .bool b, _, _, h => by
    cases h
    exact .bl b
  | .int i, _, _, h => by
    cases h
    exact .int i
  | .str x, _, _, h => by
    cases h
    exact .str x
  | .list ds, _, f, h => by
    rw [flatD] at f
    cases f
  | .tuple ds, _, f, h => by
    rw [flatD] at f
    cases h with
    | tup hs ha => exact .tup (sqT_mut hs e) (dps_mut e ds f ha)
  | .dict _, _, _, h => by cases h
theorem dps_mut {o : Addr} {ys zs : List V} (e : H o = some (.lst ys)) : ∀ (ds : List PyData) {vs : List V}, flatDs ds = true → DpAll K H vs ds → DpAll K (upd H o (.lst zs)) vs ds
  | [], _, _, h => by
    cases h
    exact .nil
  | d :: ds, _, f, h => by
    rw [flatDs, Bool.and_eq_true] at f
    cases h with
    | cons h1 h2 => exact .cons (dp_mut e d f.1 h1) (dps_mut e ds f.2 h2)
end
theorem dps_len : ∀ {vs : List V} {ds : List PyData}, DpAll K H vs ds → vs.length = ds.length
  | [], _, h => by
    cases h
    rfl
  | v :: vs, _, h => by
    cases h with
    | cons _ h2 => exact congrArg Nat.succ (dps_len h2)
theorem dps_get : ∀ {vs : List V} {ds : List PyData} {i : Nat} {d : PyData}, DpAll K H vs ds → ds[i]? = some d → ∃ v, vs[i]? = some v ∧ Dp K H v d
  | [], _, _, _, h, e => by
    cases h
    simp at e
  | v :: vs, _, 0, _, h, e => by
    cases h with
    | cons h1 _ => exact ⟨v, rfl, by rw [← Option.some.inj e]; exact h1⟩
  | v :: vs, _, i + 1, _, h, e => by
    cases h with
    | cons _ h2 => exact dps_get (i := i) h2 e
theorem dps_app : ∀ {vs ws : List V} {ds es : List PyData}, DpAll K H vs ds → DpAll K H ws es → DpAll K H (vs ++ ws) (ds ++ es)
  | [], _, _, _, h, k => by
    cases h
    exact k
  | v :: vs, _, _, _, h, k => by
    cases h with
    | cons h1 h2 => exact .cons h1 (dps_app h2 k)
theorem dps_drop : ∀ {vs : List V} {ds : List PyData} (n : Nat), DpAll K H vs ds → DpAll K H (vs.drop n) (ds.drop n)
  | _, _, 0, h => h
  | [], _, n + 1, h => by
    cases h
    exact .nil
  | v :: vs, _, n + 1, h => by
    cases h with
    | cons _ h2 => exact dps_drop n h2
theorem dps_take : ∀ {vs : List V} {ds : List PyData} (n : Nat), DpAll K H vs ds → DpAll K H (vs.take n) (ds.take n)
  | _, _, 0, h => .nil
  | [], _, n + 1, h => by
    cases h
    exact .nil
  | v :: vs, _, n + 1, h => by
    cases h with
    | cons h1 h2 => exact .cons h1 (dps_take n h2)
theorem atI_dp {vs : List V} {ds : List PyData} {i : Int} {d : PyData} (h : DpAll K H vs ds) (e : atI ds i = some d) : ∃ v, atI vs i = some v ∧ Dp K H v d := by
  unfold atI at e ⊢
  rw [dps_len h]
  cases q : ixN ds.length i with
  | none =>
    rw [q] at e
    cases e
  | some j =>
    rw [q] at e
    exact dps_get h e
end

/-! ### environments -/
structure EnvOk (K : PySem.W.Frag) (σ : L2.St) (H : Hp) (ρ : Rho) : Prop where
  len : σ.length = ρ.length
  at_ : ∀ (i : Nat) (d : PyData), ρ[i]? = some (some d) → ∃ v, σ[i]? = some (some v) ∧ Dp K H v d
theorem EnvOk.same {K : PySem.W.Frag} {σ : L2.St} {H H' : Hp} {ρ : Rho} (h : EnvOk K σ H ρ) (e : Same H H') : EnvOk K σ H' ρ :=
  ⟨h.len, fun i d q => let ⟨v, a, b⟩ := h.at_ i d q; ⟨v, a, dp_same e d b⟩⟩
theorem EnvOk.set {K : PySem.W.Frag} {σ : L2.St} {H : Hp} {ρ : Rho} (h : EnvOk K σ H ρ) {v : V} {d : PyData} (i : Nat) (e : Dp K H v d) : EnvOk K (σ.set i (some v)) H (ρ.set i (some d)) := by
  refine ⟨by rw [List.length_set, List.length_set, h.len], fun j f q => ?_⟩
  by_cases hj : i = j
  · subst hj
    have hi : i < ρ.length := by
      have := (List.getElem?_eq_some_iff.mp q).1
      rw [List.length_set] at this
      exact this
    rw [List.getElem?_set_self hi] at q
    cases q
    refine ⟨v, ?_, e⟩
    rw [List.getElem?_set_self (by rw [h.len]; exact hi)]
  · rw [List.getElem?_set_ne hj] at q
    obtain ⟨w, a, b⟩ := h.at_ j f q
    exact ⟨w, by rw [List.getElem?_set_ne hj]; exact a, b⟩
/-- a slot that holds no data (an object that changes, a def) -/
theorem EnvOk.setO {K : PySem.W.Frag} {σ : L2.St} {H : Hp} {ρ : Rho} (h : EnvOk K σ H ρ) (v : Option V) (i : Nat) : EnvOk K (σ.set i v) H (ρ.set i none) := by
  refine ⟨by rw [List.length_set, List.length_set, h.len], fun j f q => ?_⟩
  by_cases hj : i = j
  · subst hj
    have hi : i < ρ.length := by
      have := (List.getElem?_eq_some_iff.mp q).1
      rw [List.length_set] at this
      exact this
    rw [List.getElem?_set_self hi] at q
    cases q
  · rw [List.getElem?_set_ne hj] at q
    obtain ⟨w, a, b⟩ := h.at_ j f q
    exact ⟨w, by rw [List.getElem?_set_ne hj]; exact a, b⟩
def rho0 (n : Nat) (ds : List PyData) : Rho := ds.map some ++ List.replicate (n - ds.length) none
theorem env_start {K : PySem.W.Frag} {H : Hp} {N : List Str} {vs : List V} {ds : List PyData} (h : DpAll K H vs ds) : EnvOk K (L2.start N vs) H (rho0 N.length ds) := by
  have hl := dps_len h
  refine ⟨by unfold L2.start rho0; simp [hl], fun i d q => ?_⟩
  unfold rho0 at q
  by_cases hi : i < ds.length
  · rw [List.getElem?_append_left (by simpa using hi), List.getElem?_map] at q
    cases e : ds[i]? with
    | none =>
      rw [e] at q
      cases q
    | some d' =>
      rw [e] at q
      cases q
      obtain ⟨v, a, b⟩ := dps_get h e
      refine ⟨v, ?_, b⟩
      unfold L2.start
      rw [List.getElem?_append_left (by rw [List.length_map]; omega), List.getElem?_map, a]
      rfl
  · rw [List.getElem?_append_right (by simpa using hi), List.getElem?_replicate] at q
    split at q <;> cases q

/-! ### what evaluates to what -/
def DE (K : PySem.W.Frag) (te : TE) (ρ : Rho) (d : PyData) : Prop := ∀ (σ : L2.St) (H : Hp), EnvOk K σ H ρ → ∀ Q : VK, (∀ v H', Same H H' → Dp K H' v d → Q v H') → te σ H Q
def DA (K : PySem.W.Frag) (ta : TA) (ρ : Rho) (ds : List PyData) : Prop := ∀ (σ : L2.St) (H : Hp), EnvOk K σ H ρ → ∀ Q : List V → Hp → Prop, (∀ vs H', Same H H' → DpAll K H' vs ds → Q vs H') → ta σ H Q
def DT (K : PySem.W.Frag) (tt : TT) (ρ : Rho) (b : Bool) : Prop := ∀ (σ : L2.St) (H : Hp), EnvOk K σ H ρ → ∀ Q : Bool → Hp → Prop, (∀ H', Same H H' → Q b H') → tt σ H Q
def DO (K : PySem.W.Frag) (to : TO) (ρ : Rho) (o : Option Int) : Prop := ∀ (σ : L2.St) (H : Hp), EnvOk K σ H ρ → ∀ Q : Option Int → Hp → Prop, (∀ H', Same H H' → Q o H') → to σ H Q
inductive Out where
  | nx (ρ : Rho)
  | rt (d : PyData)
def Out.sat (K : PySem.W.Frag) (D : Ends) (H : Hp) : Out → Prop
  | .nx ρ => ∀ σ' H', Same H H' → EnvOk K σ' H' ρ → D.nx σ' H'
  | .rt d => ∀ v H', Same H H' → Dp K H' v d → D.rt v H'
def DS (K : PySem.W.Frag) (ts : TS) (ρ : Rho) (o : Out) : Prop := ∀ (D : Ends) (σ : L2.St) (H : Hp), EnvOk K σ H ρ → o.sat K D H → ts D σ H
theorem Out.sat_same {K : PySem.W.Frag} {D : Ends} {H H' : Hp} (e : Same H H') : ∀ {o : Out}, o.sat K D H → o.sat K D H'
  | .nx _, h => fun σ' H2 e2 q => h σ' H2 (e.trans e2) q
  | .rt _, h => fun v H2 e2 q => h v H2 (e.trans e2) q

section
variable {K : PySem.W.Frag} {ρ : Rho} {ta tb tc te : TE} {t u : TT} {d d1 d2 : PyData} {i j : Int} {a b : Bool}
theorem de_var {i : Nat} (h : ρ[i]? = some (some d)) : DE K (tVar i) ρ d := fun σ H e Q q => by
  obtain ⟨v, a, b⟩ := e.at_ i d h
  exact ⟨v, a, q v H (Same.refl H) b⟩
theorem de_c {v : V} (h : ∀ H, Dp K H v d) : DE K (tC v) ρ d := fun σ H _ Q q => q v H (Same.refl H) (h H)
theorem de_int : DE K (tC (.int i)) ρ (.int i) := de_c fun _ => .int i
theorem de_bl : DE K (tC (.bl a)) ρ (.bool a) := de_c fun _ => .bl a
theorem de_str {x : Str} : DE K (tC (.str x)) ρ (.str x) := de_c fun _ => .str x
theorem de_non : DE K (tC .non) ρ .none := de_c fun _ => .non
theorem de_I0 {g : Int → Int → V} (ha : DE K ta ρ (.int i)) (hb : DE K tb ρ (.int j)) (hd : ∀ H, Dp K H (g i j) d) : DE K (tOp (rI0 g) ta tb) ρ d := fun σ H e Q q =>
  ha σ H e _ fun x H1 e1 hx => hb σ H1 (e.same e1) _ fun y H2 e2 hy => by
    cases hx
    cases hy
    exact ⟨i, j, rfl, rfl, q _ H2 (e1.trans e2) (hd H2)⟩
theorem de_I {C : Int → Int → Prop} {g : Int → Int → V} (ha : DE K ta ρ (.int i)) (hb : DE K tb ρ (.int j)) (hc : C i j) (hd : ∀ H, Dp K H (g i j) d) : DE K (tOp (rI C g) ta tb) ρ d := fun σ H e Q q =>
  ha σ H e _ fun x H1 e1 hx => hb σ H1 (e.same e1) _ fun y H2 e2 hy => by
    cases hx
    cases hy
    exact ⟨i, j, rfl, rfl, hc, q _ H2 (e1.trans e2) (hd H2)⟩
theorem de_add (ha : DE K ta ρ (.int i)) (hb : DE K tb ρ (.int j)) : DE K (tOp (rI0 fun i j => .int (i + j)) ta tb) ρ (.int (i + j)) := de_I0 ha hb fun _ => .int _
theorem de_sub (ha : DE K ta ρ (.int i)) (hb : DE K tb ρ (.int j)) : DE K (tOp (rI0 fun i j => .int (i - j)) ta tb) ρ (.int (i - j)) := de_I0 ha hb fun _ => .int _
theorem de_lt (ha : DE K ta ρ (.int i)) (hb : DE K tb ρ (.int j)) : DE K (tOp (rI0 fun i j => .bl (decide (i < j))) ta tb) ρ (.bool (decide (i < j))) := de_I0 ha hb fun _ => .bl _
theorem de_le (ha : DE K ta ρ (.int i)) (hb : DE K tb ρ (.int j)) : DE K (tOp (rI0 fun i j => .bl (decide (i ≤ j))) ta tb) ρ (.bool (decide (i ≤ j))) := de_I0 ha hb fun _ => .bl _
theorem de_gt (ha : DE K ta ρ (.int i)) (hb : DE K tb ρ (.int j)) : DE K (tOp (rI0 fun i j => .bl (decide (j < i))) ta tb) ρ (.bool (decide (j < i))) := de_I0 ha hb fun _ => .bl _
theorem de_mulW (ha : DE K ta ρ (.int i)) (hb : DE K tb ρ (.int j)) (hc : CMulW i j) : DE K (tOp (rI CMulW fun i j => .int (i * j)) ta tb) ρ (.int (i * j)) := de_I ha hb hc fun _ => .int _
theorem de_divW (ha : DE K ta ρ (.int i)) (hb : DE K tb ρ (.int j)) (hc : CDivW i j) : DE K (tOp (rI CDivW fun i j => .int (i / j)) ta tb) ρ (.int (i / j)) := de_I ha hb hc fun _ => .int _
theorem de_mod (ha : DE K ta ρ (.int i)) (hb : DE K tb ρ (.int j)) (hc : 0 < j) : DE K (tOp (rI (fun _ j => 0 < j) fun i j => .int (i % j)) ta tb) ρ (.int (i % j)) := de_I ha hb hc fun _ => .int _
theorem de_neg (ha : DE K ta ρ (.int i)) : DE K (tUn (rU fun i => .int (-i)) ta) ρ (.int (-i)) := fun σ H e Q q =>
  ha σ H e _ fun x H1 e1 hx => by
    cases hx
    exact ⟨i, rfl, q _ H1 e1 (.int _)⟩
/-- == and != of scalars -/
theorem de_eq (ha : DE K ta ρ d1) (hb : DE K tb ρ d2) (hs : ∀ H x y, Dp K H x d1 → Dp K H y d2 → scal x y = true ∧ decide (x = y) = b) : DE K (tOp rEq ta tb) ρ (.bool b) := fun σ H e Q q =>
  ha σ H e _ fun x H1 e1 hx => hb σ H1 (e.same e1) _ fun y H2 e2 hy => by
    obtain ⟨h1, h2⟩ := hs H2 x y (dp_same e2 d1 hx) hy
    refine ⟨h1, ?_⟩
    rw [h2]
    exact q _ H2 (e1.trans e2) (.bl b)
theorem de_ne (ha : DE K ta ρ d1) (hb : DE K tb ρ d2) (hs : ∀ H x y, Dp K H x d1 → Dp K H y d2 → scal x y = true ∧ decide (x = y) = b) : DE K (tOp rNe ta tb) ρ (.bool (!b)) := fun σ H e Q q =>
  ha σ H e _ fun x H1 e1 hx => hb σ H1 (e.same e1) _ fun y H2 e2 hy => by
    obtain ⟨h1, h2⟩ := hs H2 x y (dp_same e2 d1 hx) hy
    refine ⟨h1, ?_⟩
    rw [h2]
    exact q _ H2 (e1.trans e2) (.bl _)
theorem sc_int {i j : Int} : ∀ H x y, Dp K H x (.int i) → Dp K H y (.int j) → scal x y = true ∧ decide (x = y) = decide (i = j) := fun H x y hx hy => by
  cases hx
  cases hy
  refine ⟨rfl, ?_⟩
  rw [dec_int]
  exact Bool.beq_eq_decide_eq i j
theorem sc_bl {i j : Bool} : ∀ H x y, Dp K H x (.bool i) → Dp K H y (.bool j) → scal x y = true ∧ decide (x = y) = (i == j) := fun H x y hx hy => by
  cases hx
  cases hy
  exact ⟨rfl, dec_bl⟩
theorem sc_str {i j : Str} : ∀ H x y, Dp K H x (.str i) → Dp K H y (.str j) → scal x y = true ∧ decide (x = y) = (i == j) := fun H x y hx hy => by
  cases hx
  cases hy
  exact ⟨rfl, dec_str⟩
/-- == and != of data -/
theorem de_eqD (ha : DE K ta ρ d1) (hb : DE K tb ρ d2) (h1 : SeqAt.shaped d1 = true) (h2 : SeqAt.shaped d2 = true) (hv : PyData.eqv d1 d2 = b) : DE K (tOp (rEqD K) ta tb) ρ (.bool b) := fun σ H e Q q =>
  ha σ H e _ fun x H1 e1 hx => hb σ H1 (e.same e1) _ fun y H2 e2 hy => by
    refine ⟨d1, d2, dp_same e2 d1 hx, hy, h1, h2, ?_⟩
    rw [hv]
    exact q _ H2 (e1.trans e2) (.bl b)
theorem de_neD (ha : DE K ta ρ d1) (hb : DE K tb ρ d2) (h1 : SeqAt.shaped d1 = true) (h2 : SeqAt.shaped d2 = true) (hv : PyData.eqv d1 d2 = b) : DE K (tOp (rNeD K) ta tb) ρ (.bool (!b)) := fun σ H e Q q =>
  ha σ H e _ fun x H1 e1 hx => hb σ H1 (e.same e1) _ fun y H2 e2 hy => by
    refine ⟨d1, d2, dp_same e2 d1 hx, hy, h1, h2, ?_⟩
    rw [hv]
    exact q _ H2 (e1.trans e2) (.bl _)
def isN : PyData → Bool
  | .none => true
  | _ => false
theorem isN_dp {H : Hp} {v : V} (h : Dp K H v d) : decide (v = .non) = isN d := by
  cases h <;> rfl
theorem de_isN (ha : DE K ta ρ d) : DE K (tIsN ta) ρ (.bool (isN d)) := fun σ H e Q q =>
  ha σ H e _ fun x H1 e1 hx => by
    rw [isN_dp hx]
    exact q _ H1 e1 (.bl _)
/-- places -/
theorem de_ixT {ds : List PyData} (ha : DE K ta ρ (.tuple ds)) (hb : DE K tb ρ (.int i)) (h : atI ds i = some d) : DE K (tOp (rIxT K) ta tb) ρ d := fun σ H e Q q =>
  ha σ H e _ fun x H1 e1 hx => hb σ H1 (e.same e1) _ fun y H2 e2 hy => by
    cases hy
    cases hx with
    | tup hs hA =>
      obtain ⟨v, a, b⟩ := atI_dp hA h
      exact ⟨_, _, i, v, rfl, rfl, sqT_same e2 hs, a, q v H2 (e1.trans e2) (dp_same e2 d b)⟩
theorem de_ixL {ds : List PyData} (ha : DE K ta ρ (.list ds)) (hb : DE K tb ρ (.int i)) (h : atI ds i = some d) : DE K (tOp (rIxL K) ta tb) ρ d := fun σ H e Q q =>
  ha σ H e _ fun x H1 e1 hx => hb σ H1 (e.same e1) _ fun y H2 e2 hy => by
    cases hy
    cases hx with
    | lst hs hA =>
      obtain ⟨v, a, b⟩ := atI_dp hA h
      exact ⟨_, _, i, v, rfl, rfl, sqL_same e2 hs, a, q v H2 (e1.trans e2) (dp_same e2 d b)⟩
theorem de_ixSL {ds : List PyData} (ha : DE K ta ρ (.list ds)) (hb : DE K tb ρ (.int i)) (h : atI ds i = some d) : DE K (tOp (rIx K) ta tb) ρ d := fun σ H e Q q =>
  ha σ H e _ fun x H1 e1 hx => hb σ H1 (e.same e1) _ fun y H2 e2 hy => by
    cases hy
    cases hx with
    | lst hs hA =>
      obtain ⟨v, a, b⟩ := atI_dp hA h
      exact .inl ⟨_, _, i, v, rfl, rfl, sqL_same e2 hs, a, q v H2 (e1.trans e2) (dp_same e2 d b)⟩
theorem de_ixST {ds : List PyData} (ha : DE K ta ρ (.tuple ds)) (hb : DE K tb ρ (.int i)) (h : atI ds i = some d) : DE K (tOp (rIx K) ta tb) ρ d := fun σ H e Q q =>
  ha σ H e _ fun x H1 e1 hx => hb σ H1 (e.same e1) _ fun y H2 e2 hy => by
    cases hy
    cases hx with
    | tup hs hA =>
      obtain ⟨v, a, b⟩ := atI_dp hA h
      exact .inr (.inl ⟨_, _, i, v, rfl, rfl, sqT_same e2 hs, a, q v H2 (e1.trans e2) (dp_same e2 d b)⟩)
/-- arguments, displays -/
theorem da_nil : DA K tNil ρ [] := fun σ H _ Q q => q [] H (Same.refl H) .nil
theorem da_cons {tr : TA} {ds : List PyData} (h : DE K te ρ d) (hr : DA K tr ρ ds) : DA K (tCons te tr) ρ (d :: ds) := fun σ H e Q q =>
  h σ H e _ fun x H1 e1 hx => hr σ H1 (e.same e1) _ fun vs H2 e2 hv => q _ H2 (e1.trans e2) (.cons (dp_same e2 d hx) hv)
theorem sz_of {n : Nat} (h : n ≤ 100000) : n ≤ sizeLine := Nat.le_trans h (by decide)
theorem de_tup {tr : TA} {ds : List PyData} (h : DA K tr ρ ds) (hl : ds.length ≤ 100000) : DE K (tTup tr) ρ (.tuple ds) := fun σ H e Q q =>
  h σ H e _ fun vs H1 e1 hv => ⟨sz_of (by rw [dps_len hv]; exact hl), fun p hp => q _ _ (e1.trans (same_new hp)) (.tup (SqT.of upd_same) (dps_same (same_new hp) ds hv))⟩
theorem de_lst {tr : TA} {ds : List PyData} (h : DA K tr ρ ds) (hl : ds.length ≤ 100000) : DE K (tLst tr) ρ (.list ds) := fun σ H e Q q =>
  h σ H e _ fun vs H1 e1 hv => ⟨sz_of (by rw [dps_len hv]; exact hl), fun p hp => q _ _ (e1.trans (same_new hp)) (.lst (SqL.of upd_same) (dps_same (same_new hp) ds hv))⟩
/-- built-ins -/
theorem de_lenT {ds : List PyData} (h : DE K te ρ (.tuple ds)) : DE K (tCB (fun xs H Q => ∃ p ys, xs = [.ref p] ∧ (SqL K H p ys ∨ SqT K H p ys) ∧ Q (.int ys.length) H) (tCons te tNil)) ρ (.int (ds.length : Nat)) := fun σ H e Q q =>
  h σ H e _ fun x H1 e1 hx => by
    cases hx with
    | tup hs hA =>
      refine ⟨_, _, rfl, .inr hs, ?_⟩
      rw [dps_len hA]
      exact q _ H1 e1 (.int _)
theorem de_lenL {ds : List PyData} (h : DE K te ρ (.list ds)) : DE K (tCB (fun xs H Q => ∃ p ys, xs = [.ref p] ∧ (SqL K H p ys ∨ SqT K H p ys) ∧ Q (.int ys.length) H) (tCons te tNil)) ρ (.int (ds.length : Nat)) := fun σ H e Q q =>
  h σ H e _ fun x H1 e1 hx => by
    cases hx with
    | lst hs hA =>
      refine ⟨_, _, rfl, .inl hs, ?_⟩
      rw [dps_len hA]
      exact q _ H1 e1 (.int _)
theorem de_abs (h : DE K te ρ (.int i)) : DE K (tCB (fun xs H Q => ∃ i, xs = [.int i] ∧ Q (.int (if i < 0 then -i else i)) H) (tCons te tNil)) ρ (.int (i.natAbs : Nat)) := fun σ H e Q q =>
  h σ H e _ fun x H1 e1 hx => by
    cases hx
    refine ⟨i, rfl, ?_⟩
    have z : (if i < 0 then -i else i) = ((i.natAbs : Nat) : Int) := by split <;> omega
    rw [z]
    exact q _ H1 e1 (.int _)
theorem de_int1 (h : DE K te ρ (.int i)) : DE K (tCB (fun xs H Q => (∃ i, xs = [.int i] ∧ Q (.int i) H) ∨ ∃ k, xs = [.bl k] ∧ Q (.int (if k then 1 else 0)) H) (tCons te tNil)) ρ (.int i) := fun σ H e Q q =>
  h σ H e _ fun x H1 e1 hx => by
    cases hx
    exact .inl ⟨i, rfl, q _ H1 e1 (.int _)⟩
theorem de_tupleL {ds : List PyData} (h : DE K te ρ (.list ds)) : DE K (tCB (fun xs H Q => ∃ p ys, xs = [.ref p] ∧ ((SqL K H p ys ∧ ∀ l, H l = none → Q (.ref l) (upd H l (.tup ys))) ∨ (SqT K H p ys ∧ Q (.ref p) H))) (tCons te tNil)) ρ (.tuple ds) := fun σ H e Q q =>
  h σ H e _ fun x H1 e1 hx => by
    cases hx with
    | lst hs hA => exact ⟨_, _, rfl, .inl ⟨hs, fun l hl => q _ _ (e1.trans (same_new hl)) (.tup (SqT.of upd_same) (dps_same (same_new hl) ds hA))⟩⟩
theorem de_tupleT {ds : List PyData} (h : DE K te ρ (.tuple ds)) : DE K (tCB (fun xs H Q => ∃ p ys, xs = [.ref p] ∧ ((SqL K H p ys ∧ ∀ l, H l = none → Q (.ref l) (upd H l (.tup ys))) ∨ (SqT K H p ys ∧ Q (.ref p) H))) (tCons te tNil)) ρ (.tuple ds) := fun σ H e Q q =>
  h σ H e _ fun x H1 e1 hx => by
    cases hx with
    | tup hs hA => exact ⟨_, _, rfl, .inr ⟨hs, q _ _ e1 (.tup hs hA)⟩⟩
/-- isinstance -/
def tyD : PyData → String
  | .none => "NoneType"
  | .bool _ => "bool"
  | .int _ => "int"
  | .str _ => "str"
  | .list _ => "list"
  | .tuple _ => "tuple"
  | .dict _ => "dict"
theorem tyx_of {H : Hp} {v : V} (h : Dp K H v d) : TyX K H v (.type (tyD d)) := by
  cases h with
  | non => exact .base .non
  | bl b => exact .base (.bl b)
  | int i => exact .base (.int i)
  | str x => exact .base (.str x)
  | lst hs _ =>
    rcases hs with (h | ⟨o, h⟩) | ⟨o, its, n, h, c, _⟩
    · exact .base (.lst h)
    · exact .base (.frz h)
    · exact .kList h c
  | tup hs _ =>
    rcases hs with (h | ⟨o, h⟩) | ⟨o, its, n, h, c, _⟩
    · exact .base (.tup h)
    · exact .fTuple h
    · exact .kTuple h c
theorem de_isi {n : String} (h : DE K te ρ d) (hk : kitB (tyD d) n = some b) : DE K (tCB (rIsi K) (tCons te (tCons (tC (.ty n)) tNil))) ρ (.bool b) := fun σ H e Q q =>
  h σ H e _ fun x H1 e1 hx => ⟨x, .ty n, .type (tyD d), .type n, b, rfl, .ty n, tyx_of hx, kit_ty hk, q _ H1 e1 (.bl b)⟩
theorem de_isi2 {n m : String} (h : DE K te ρ d) (hk : kitB (tyD d) n = some a) (hk2 : kitB (tyD d) m = some b) : DE K (tCB (rIsiT K) (tCons te (tCons (tTup (tCons (tC (.ty n)) (tCons (tC (.ty m)) tNil))) tNil))) ρ (.bool (a || b)) := fun σ H e Q q =>
  h σ H e _ fun x H1 e1 hx => ⟨(by show 2 ≤ sizeLine; decide), fun p hp => ⟨x, p, [.ty n, .ty m], .type (tyD d), [.type n, .type m], (a || b), rfl, upd_same, .cons (.ty n) (.cons (.ty m) .nil), tyx_of (dp_same (same_new hp) d hx),
    kitAny_cons (kit_ty hk) (fun ea => kitAny_cons (kit_ty hk2) (fun eb => by rw [ea, eb]; exact kitAny_nil) (fun eb => by rw [eb, Bool.or_true])) (fun ea => by rw [ea, Bool.true_or]), q _ _ (e1.trans (same_new hp)) (.bl _)⟩⟩
/-- tests -/
theorem dt_test (h : DE K te ρ (.bool b)) : DT K (tTest te) ρ b := fun σ H e Q q =>
  h σ H e _ fun x H1 e1 hx => by
    cases hx
    exact ⟨b, rfl, q H1 e1⟩
theorem dt_B (h : DE K te ρ (.bool b)) : DT K (tB te) ρ b := fun σ H e Q q =>
  h σ H e _ fun x H1 e1 hx => by
    cases hx
    exact ⟨b, rfl, q H1 e1⟩
theorem dt_and (h1 : DT K t ρ a) (h2 : a = true → DT K u ρ b) : DT K (tAnd t u) ρ (a && b) := fun σ H e Q q => h1 σ H e _ fun H1 e1 => by
  cases a with
  | true =>
    show u σ H1 Q
    exact h2 rfl σ H1 (e.same e1) Q fun H2 e2 => q H2 (e1.trans e2)
  | false =>
    show Q false H1
    exact q H1 e1
theorem dt_or (h1 : DT K t ρ a) (h2 : a = false → DT K u ρ b) : DT K (tOr t u) ρ (a || b) := fun σ H e Q q => h1 σ H e _ fun H1 e1 => by
  cases a with
  | true =>
    show Q true H1
    exact q H1 e1
  | false =>
    show u σ H1 Q
    exact h2 rfl σ H1 (e.same e1) Q fun H2 e2 => q H2 (e1.trans e2)
theorem dt_orT (h1 : DT K t ρ true) : DT K (tOr t u) ρ true := fun σ H e Q q => h1 σ H e _ fun H1 e1 => q H1 e1
theorem dt_not (h1 : DT K t ρ a) : DT K (tNot t) ρ (!a) := fun σ H e Q q => h1 σ H e _ fun H1 e1 => q H1 e1
theorem dt_is (h : DT K t ρ a) (e : a = b) : DT K t ρ b := by
  rw [← e]
  exact h
theorem de_is (h : DE K te ρ d1) (e : d1 = d2) : DE K te ρ d2 := by
  rw [← e]
  exact h
theorem de_andV (h1 : DE K ta ρ (.bool a)) (h2 : a = true → DE K tb ρ (.bool b)) : DE K (tAndV ta tb) ρ (.bool (a && b)) := fun σ H e Q q => h1 σ H e _ fun x H1 e1 hx => by
  cases hx
  refine ⟨a, rfl, ?_⟩
  cases a with
  | true =>
    show tb σ H1 Q
    exact h2 rfl σ H1 (e.same e1) Q fun v H2 e2 hv => q v H2 (e1.trans e2) hv
  | false =>
    show Q (.bl false) H1
    exact q _ H1 e1 (.bl _)
theorem de_notV (h1 : DE K ta ρ (.bool a)) : DE K (tNotV ta) ρ (.bool (!a)) := fun σ H e Q q => h1 σ H e _ fun x H1 e1 hx => by
  cases hx
  exact ⟨a, rfl, q _ H1 e1 (.bl _)⟩
theorem de_if (h : DT K t ρ b) (h1 : b = true → DE K ta ρ d) (h2 : b = false → DE K tb ρ d) : DE K (tIf t ta tb) ρ d := fun σ H e Q q => h σ H e _ fun H1 e1 => by
  cases b with
  | true =>
    show ta σ H1 Q
    exact h1 rfl σ H1 (e.same e1) Q fun v H2 e2 hv => q v H2 (e1.trans e2) hv
  | false =>
    show tb σ H1 Q
    exact h2 rfl σ H1 (e.same e1) Q fun v H2 e2 hv => q v H2 (e1.trans e2) hv
/-- a op b op' c over ints -/
theorem de_chain {g g' : Int → Int → Bool} {k : Int} (ha : DE K ta ρ (.int i)) (hb : DE K tb ρ (.int j)) (hc : DE K tc ρ (.int k)) : DE K (tChain (rI0 fun i j => .bl (g i j)) (rI0 fun i j => .bl (g' i j)) ta tb tc) ρ (.bool (g i j && g' j k)) := fun σ H e Q q =>
  ha σ H e _ fun x H1 e1 hx => hb σ H1 (e.same e1) _ fun y H2 e2 hy => by
    cases hx
    cases hy
    refine ⟨i, j, rfl, rfl, g i j, rfl, ?_⟩
    cases z : g i j with
    | true =>
      show tc σ H2 _
      exact hc σ H2 ((e.same e1).same e2) _ fun v H3 e3 hv => by
        cases hv
        exact ⟨j, k, rfl, rfl, q _ H3 ((e1.trans e2).trans e3) (by rw [z, Bool.true_and]; exact .bl _)⟩
    | false =>
      show Q (.bl false) H2
      exact q _ H2 (e1.trans e2) (by rw [z, Bool.false_and]; exact .bl _)
/-- slices -/
theorem do_none : DO K tNoPart ρ none := fun σ H _ Q q => q H (Same.refl H)
theorem do_some (h : DE K te ρ (.int i)) : DO K (tPart te) ρ (some i) := fun σ H e Q q => h σ H e _ fun x H1 e1 hx => by
  cases hx
  exact ⟨i, rfl, q H1 e1⟩
def cutD (ds : List PyData) (lo hi : Option Int) : List PyData := (ds.drop (HT.sIx ds.length 0 lo)).take (HT.sIx ds.length ds.length hi - HT.sIx ds.length 0 lo)
theorem cut_dp {H : Hp} {vs : List V} {ds : List PyData} {lo hi : Option Int} (h : DpAll K H vs ds) : DpAll K H (cutV vs lo hi) (cutD ds lo hi) := by
  unfold cutV cutD
  rw [dps_len h]
  exact dps_take _ (dps_drop _ h)
theorem cutD_whole {ds : List PyData} {lo hi : Option Int} (h : HT.sIx ds.length 0 lo = 0 ∧ HT.sIx ds.length ds.length hi = ds.length) : cutD ds lo hi = ds := by
  unfold cutD
  rw [h.1, h.2, List.drop_zero, Nat.sub_zero, List.take_length]
theorem de_slT {tl th : TO} {ds : List PyData} {lo hi : Option Int} (h : DE K te ρ (.tuple ds)) (h1 : DO K tl ρ lo) (h2 : DO K th ρ hi) : DE K (tSl (rSlA K) te tl th) ρ (.tuple (cutD ds lo hi)) := fun σ H e Q q =>
  h σ H e _ fun x H1 e1 hx => h1 σ H1 (e.same e1) _ fun H2 e2 => h2 σ H2 ((e.same e1).same e2) _ fun H3 e3 => by
    cases hx with
    | tup hs hA =>
      have hs3 := sqT_same (e2.trans e3) hs
      have hA3 := dps_same (e2.trans e3) ds hA
      refine ⟨_, _, rfl, hs3, fun hw => ?_, fun hw p hp => ?_⟩
      · rw [dps_len hA] at hw
        refine q _ H3 ((e1.trans e2).trans e3) ?_
        rw [cutD_whole hw]
        exact .tup hs3 hA3
      · exact q _ _ (((e1.trans e2).trans e3).trans (same_new hp)) (.tup (SqT.of upd_same) (dps_same (same_new hp) _ (cut_dp hA3)))
end
end Fw
set_option maxHeartbeats 2000000
/-! Statements, loops, comprehensions, calls over the layer of data. -/
namespace Fw
open PySem PySem.Spec PyProof.Rows L2
/-! ### forgetting slots -/
def Wk (ρ' ρ : Rho) : Prop := ρ'.length = ρ.length ∧ ∀ (i : Nat) (d : PyData), ρ'[i]? = some (some d) → ρ[i]? = some (some d)
theorem Wk.refl (ρ : Rho) : Wk ρ ρ := ⟨rfl, fun _ _ h => h⟩
theorem Wk.nil : Wk [] [] := Wk.refl []
theorem Wk.keep {a b : Rho} {x : Option PyData} (h : Wk a b) : Wk (x :: a) (x :: b) := ⟨congrArg Nat.succ h.1, fun i d q => by
  cases i with
  | zero => exact q
  | succ i => exact h.2 i d q⟩
theorem Wk.drop {a b : Rho} {x : Option PyData} (h : Wk a b) : Wk (none :: a) (x :: b) := ⟨congrArg Nat.succ h.1, fun i d q => by
  cases i with
  | zero => cases q
  | succ i => exact h.2 i d q⟩
theorem EnvOk.wk {K : PySem.W.Frag} {σ : L2.St} {H : Hp} {ρ ρ' : Rho} (h : EnvOk K σ H ρ) (w : Wk ρ' ρ) : EnvOk K σ H ρ' := ⟨h.len.trans w.1.symm, fun i d q => h.at_ i d (w.2 i d q)⟩
section
variable {K : PySem.W.Frag} {ρ ρ1 ρ2 : Rho} {te : TE} {ta : TA} {tt : TT} {t u : TS} {o : Out} {d e : PyData} {b : Bool}
theorem ds_next : DS K tNext ρ (.nx ρ) := fun D σ H e h => h σ H (Same.refl H) e
theorem ds_seq (h1 : DS K t ρ (.nx ρ1)) (h2 : DS K u ρ1 o) : DS K (tSeq t u) ρ o := fun D σ H e h =>
  h1 { D with nx := u D } σ H e fun σ' H' s e' => h2 D σ' H' e' (Out.sat_same s h)
theorem ds_rt (h1 : DS K t ρ (.rt d)) : DS K (tSeq t u) ρ (.rt d) := fun D σ H e h => h1 { D with nx := u D } σ H e h
theorem ds_wk (h : DS K t ρ (.nx ρ1)) (w : Wk ρ2 ρ1) : DS K t ρ (.nx ρ2) := fun D σ H e q => h D σ H e fun σ' H' s e' => q σ' H' s (e'.wk w)
theorem ds_set {i : Nat} (h : DE K te ρ d) : DS K (tAsg te (gName i)) ρ (.nx (ρ.set i (some d))) := fun D σ H e q =>
  h σ H e _ fun v H1 e1 hv => q (σ.set i (some v)) H1 e1 ((e.same e1).set i hv)
theorem ds_par {i j : Nat} (h : DA K ta ρ [d, e]) : DS K (tPar i j ta) ρ (.nx ((ρ.set i (some d)).set j (some e))) := fun D σ H ok q =>
  h σ H ok _ fun vs H1 e1 hv => by
    cases hv with
    | cons h1 h2 =>
      cases h2 with
      | cons h2 h3 =>
        cases h3
        exact ⟨_, _, rfl, q _ H1 e1 (((ok.same e1).set i h1).set j h2)⟩
theorem ds_asgTup {i j : Nat} (h : DE K te ρ (.tuple [d, e])) : DS K (tAsg te (gTup K 2 (gCons (gName i) (gCons (gName j) gNil)))) ρ (.nx ((ρ.set i (some d)).set j (some e))) := fun D σ H ok q =>
  h σ H ok _ fun v H1 e1 hv => by
    cases hv with
    | tup hs hA =>
      cases hA with
      | cons h1 h2 =>
        cases h2 with
        | cons h2 h3 =>
          cases h3
          exact ⟨_, _, rfl, hs, rfl, _, _, rfl, _, _, rfl, rfl, q _ H1 e1 (((ok.same e1).set i h1).set j h2)⟩
theorem ds_ret (h : DE K te ρ d) : DS K (tRet te) ρ (.rt d) := fun D σ H e q => h σ H e _ fun v H1 e1 hv => q v H1 e1 hv
theorem ds_if (h : DT K tt ρ b) (h1 : b = true → DS K t ρ o) (h2 : b = false → DS K u ρ o) : DS K (tIfS tt t u) ρ o := fun D σ H e q => h σ H e _ fun H1 e1 => by
  cases b with
  | true =>
    show t D σ H1
    exact h1 rfl D σ H1 (e.same e1) (Out.sat_same e1 q)
  | false =>
    show u D σ H1
    exact h2 rfl D σ H1 (e.same e1) (Out.sat_same e1 q)
theorem ds_ifT (h : DT K tt ρ true) (h1 : DS K t ρ o) : DS K (tIfS tt t u) ρ o := ds_if h (fun _ => h1) (fun z => Bool.noConfusion z)
theorem ds_ifF (h : DT K tt ρ false) (h1 : DS K u ρ o) : DS K (tIfS tt t u) ρ o := ds_if h (fun z => Bool.noConfusion z) (fun _ => h1)
theorem ds_is (h : DS K t ρ o) {o' : Out} (e : o = o') : DS K t ρ o' := by
  rw [← e]
  exact h
/-! ### what is walked -/
def DW (K : PySem.W.Frag) (wi : TI) (ρ : Rho) (lo : Int) (n : Nat) : Prop := ∀ (σ : L2.St) (H : Hp), EnvOk K σ H ρ → ∀ R : It → Hp → Prop, (∀ H', Same H H' → R (Itr lo n) H') → wi σ H R
theorem dw_r1 {n : Nat} (h : DA K ta ρ [.int (n : Int)]) (hn : n ≤ 100000) : DW K (iRng1 ta) ρ 0 n := fun σ H e R q => h σ H e _ fun vs H1 e1 hv => by
  cases hv with
  | cons h1 h2 =>
    cases h1
    cases h2
    refine ⟨(n : Int), rfl, by omega, by omega, ?_⟩
    rw [Int.toNat_natCast]
    exact q H1 e1
theorem dw_r2 {lo hi : Int} {n : Nat} (h : DA K ta ρ [.int lo, .int hi]) (h0 : 0 ≤ lo) (h1 : lo ≤ 100000) (h2 : -100000 ≤ hi) (h3 : hi ≤ 100000) (hn : (hi - lo).toNat = n) : DW K (iRng2 ta) ρ lo n := fun σ H e R q => h σ H e _ fun vs H1 e1 hv => by
  cases hv with
  | cons hv1 hv2 =>
    cases hv1
    cases hv2 with
    | cons hv2 hv3 =>
      cases hv2
      cases hv3
      refine ⟨lo, hi, rfl, ⟨by omega, by omega, by omega, by omega⟩, ?_⟩
      rw [hn]
      exact q H1 e1
theorem find_some {n m : Nat} {f : Nat → Bool} (h : (List.range n).find? f = some m) : m < n ∧ f m = true ∧ ∀ j, j < m → f j = false := by
  rw [List.find?_range_eq_some] at h
  obtain ⟨h1, h2, h3⟩ := h
  exact ⟨by simpa using h2, h1, fun j hj => by simpa using h3 j hj⟩
theorem find_none {n : Nat} {f : Nat → Bool} (h : (List.range n).find? f = none) : ∀ j, j < n → f j = false := fun j hj => by
  have := List.find?_eq_none.mp h j (List.mem_range.mpr hj)
  simpa using this
/-- a loop over a range that may hand back -/
theorem ds_for {wi : TI} {lo : Int} {n k : Nat} (hw : DW K wi ρ lo n) (F : Nat → Rho) (h0 : Wk (F 0) ρ) (f : Nat → Bool) (r : Nat → PyData)
    (hs : ∀ j, j < n → f j = false → DS K u ((F j).set k (some (.int (lo + (j : Nat))))) (.nx (F (j + 1)))) (hr : ∀ j, j < n → f j = true → DS K u ((F j).set k (some (.int (lo + (j : Nat))))) (.rt (r j))) :
    DS K (tFor wi (gName k) u) ρ (((List.range n).find? f).elim (.nx (F n)) fun m => .rt (r m)) := fun D σ H e q => hw σ H e _ fun H1 e1 => by
  cases hf : (List.range n).find? f with
  | none =>
    rw [hf] at q
    have hn := find_none hf
    exact for_range (fun j σ' H' => Same H1 H' ∧ EnvOk K σ' H' (F j)) ⟨Same.refl H1, (e.same e1).wk h0⟩
      (fun j σ' H' hj ⟨s', ok⟩ => hs j hj (hn j hj) _ _ _ (ok.set k (.int _)) fun σ2 H2 s2 ok2 => ⟨s'.trans s2, ok2⟩)
      (fun σ' H' ⟨s', ok⟩ => q σ' H' (e1.trans s') ok)
  | some m =>
    rw [hf] at q
    obtain ⟨m1, m2, m3⟩ := find_some hf
    exact for_range (fun j σ' H' => j ≤ m ∧ Same H1 H' ∧ EnvOk K σ' H' (F j)) ⟨Nat.zero_le _, Same.refl H1, (e.same e1).wk h0⟩
      (fun j σ' H' hj ⟨hjm, s', ok⟩ => by
        by_cases hj2 : j = m
        · subst hj2
          exact hr j hj m2 _ _ _ (ok.set k (.int _)) fun v H2 s2 hv => q v H2 ((e1.trans s').trans s2) hv
        · exact hs j hj (m3 j (by omega)) _ _ _ (ok.set k (.int _)) fun σ2 H2 s2 ok2 => ⟨by omega, s'.trans s2, ok2⟩)
      (fun σ' H' ⟨hjm, _⟩ => absurd hjm (by omega))
theorem ds_forAll {wi : TI} {lo : Int} {n k : Nat} (hw : DW K wi ρ lo n) (F : Nat → Rho) (h0 : Wk (F 0) ρ)
    (hs : ∀ j, j < n → DS K u ((F j).set k (some (.int (lo + (j : Nat))))) (.nx (F (j + 1)))) : DS K (tFor wi (gName k) u) ρ (.nx (F n)) := by
  have h := ds_for (f := fun _ => false) (r := fun _ => .none) hw F h0 (fun j hj _ => hs j hj) (fun j hj z => Bool.noConfusion z)
  have e : (List.range n).find? (fun _ => false) = none := List.find?_eq_none.mpr fun _ _ => by simp
  rw [e] at h
  exact h
/-- behind such a loop -/
theorem ds_found {x : Option Nat} {r : Nat → PyData} {d0 : PyData} (h1 : DS K t ρ (x.elim (.nx ρ1) fun m => .rt (r m))) (h2 : DS K u ρ1 (.rt d0)) : DS K (tSeq t u) ρ (.rt (x.elim d0 r)) := by
  cases x with
  | none => exact ds_seq h1 h2
  | some m => exact ds_rt h1
/-- a loop over a tuple -/
theorem ds_forT {tl : TE} {ds : List PyData} {k : Nat} (hw : DE K tl ρ (.tuple ds)) (F : Nat → Rho) (h0 : Wk (F 0) ρ)
    (hs : ∀ j x, ds[j]? = some x → DS K u ((F j).set k (some x)) (.nx (F (j + 1)))) : DS K (tFor (iTup K tl) (gName k) u) ρ (.nx (F ds.length)) := fun D σ H e q => hw σ H e _ fun v H1 e1 hv => by
  cases hv with
  | @tup a xs _ hsq hA =>
    refine ⟨a, rfl, ⟨xs, hsq⟩, ?_⟩
    refine for_tup (xs := xs) (fun j σ' H' => Same H1 H' ∧ EnvOk K σ' H' (F j)) ⟨Same.refl H1, (e.same e1).wk h0⟩ (fun j σ' H' _ ⟨s', _⟩ => sqT_same s' hsq)
      (fun j x σ' H' hx ⟨s', ok⟩ => ?_) (fun σ' H' ⟨s', ok⟩ => q σ' H' (e1.trans s') (by rw [← dps_len hA]; exact ok))
    have hj : j < ds.length := by
      rw [← dps_len hA]
      exact (List.getElem?_eq_some_iff.mp hx).1
    obtain ⟨w, e2, e3⟩ := dps_get hA (List.getElem?_eq_getElem hj)
    have e4 : w = x := Option.some.inj (e2.symm.trans hx)
    subst e4
    exact hs j _ (List.getElem?_eq_getElem hj) _ _ _ (ok.set k (dp_same s' _ e3)) fun σ2 H2 s2 ok2 => ⟨s'.trans s2, ok2⟩
/-! ### comprehensions -/
theorem dt_yes : DT K tYes ρ true := fun σ H _ Q q => q H (Same.refl H)
theorem wipe_set {σ : L2.St} {k : Nat} {v : V} : (wipe σ [k]).set k (some v) = σ.set k (some v) := by
  show (σ.set k none).set k (some v) = σ.set k (some v)
  rw [List.set_set]
theorem wipe_wipe {σ : L2.St} {k : Nat} {v : V} : wipe (σ.set k (some v)) [k] = wipe σ [k] := by
  show (σ.set k (some v)).set k none = σ.set k none
  rw [List.set_set]
theorem filt_succ {n : Nat} {f : Nat → Bool} : (List.range (n + 1)).filter f = (List.range n).filter f ++ if f n then [n] else [] := by
  rw [List.range_succ, List.filter_append]
  congr 1
  simp only [List.filter_cons, List.filter_nil]
theorem filt_len {n : Nat} {f : Nat → Bool} : ((List.range n).filter f).length ≤ n := Nat.le_trans (List.length_filter_le _ _) (by simp)
theorem flat_all {r : Nat → PyData} : ∀ {l : List Nat}, (∀ j ∈ l, flatD (r j) = true) → flatDs (l.map r) = true
  | [], _ => by rw [List.map_nil, flatDs]
  | j :: l, h => by
    rw [List.map_cons, flatDs, Bool.and_eq_true]
    exact ⟨h j List.mem_cons_self, flat_all fun i hi => h i (List.mem_cons_of_mem _ hi)⟩
/-- one turn of a comprehension's block, whatever is walked -/
theorem lc_turn {H0 H : Hp} {L : Addr} {σ : L2.St} {k j n : Nat} {x : PyData} {v : V} {f : Nat → Bool} {r : Nat → PyData} {PvN : Hp → Prop} (hL : H0 L = none) (ok0 : EnvOk K σ H0 ρ) (s : Same H0 H) (hx : Dp K H v x) (hj : j < n) (hn : n ≤ 100000)
    (ha : ∃ acc, H L = some (.lst acc) ∧ DpAll K H acc (((List.range j).filter f).map r)) (hf : DT K tt (ρ.set k (some x)) (f j)) (hr : f j = true → DE K te (ρ.set k (some x)) (r j)) (hfl : ∀ i, i ≤ j → f i = true → flatD (r i) = true)
    (hP : ∀ H', Same H0 H' → (∃ acc, H' L = some (.lst acc) ∧ DpAll K H' acc (((List.range (j + 1)).filter f).map r)) → PvN H') :
    gName k v (wipe σ [k]) H fun σ2 H2 => wipe σ2 [k] = wipe σ [k] ∧ tt σ2 H2 fun b H3 => if b = true then te σ2 H3 fun y H4 => ∃ acc, H4 L = some (.lst acc) ∧ acc.length < sizeLine ∧ PvN (upd H4 L (.lst (acc ++ [y]))) else PvN H3 := by
  obtain ⟨acc, hacc, hA⟩ := ha
  show wipe ((wipe σ [k]).set k (some v)) [k] = wipe σ [k] ∧ tt ((wipe σ [k]).set k (some v)) H _
  rw [wipe_set]
  refine ⟨wipe_wipe, ?_⟩
  have ok : EnvOk K (σ.set k (some v)) H (ρ.set k (some x)) := (ok0.same s).set k hx
  refine hf _ _ ok _ fun H3 s3 => ?_
  have hal : acc.length ≤ 100000 := by
    rw [dps_len hA, List.length_map]
    have := @filt_len j f
    omega
  cases z : f j with
  | true =>
    show te _ H3 _
    refine hr z _ _ (ok.same s3) _ fun y H4 s4 hy => ?_
    refine ⟨acc, s4 _ _ (s3 _ _ hacc), Nat.lt_of_le_of_lt hal (by decide), hP _ ?_ ?_⟩
    · exact same_mut ((s.trans s3).trans s4) hL
    · refine ⟨acc ++ [y], upd_same, ?_⟩
      rw [filt_succ, z, List.map_append]
      have h4 : H4 L = some (.lst acc) := s4 _ _ (s3 _ _ hacc)
      refine dps_app (dps_mut h4 _ (flat_all fun i hi => ?_) (dps_same (s3.trans s4) _ hA)) (.cons (dp_mut h4 _ (hfl j (Nat.le_refl _) z) hy) .nil)
      obtain ⟨h5, h6⟩ := List.mem_filter.mp hi
      exact hfl i (by have := List.mem_range.mp h5; omega) h6
  | false =>
    show PvN H3
    refine hP _ (s.trans s3) ⟨acc, s3 _ _ hacc, ?_⟩
    rw [filt_succ, z, if_neg Bool.false_ne_true, List.append_nil]
    exact dps_same s3 _ hA
/-- [te for k in range if tt] -/
theorem de_lcR {wi : TI} {lo : Int} {n k : Nat} (hw : DW K wi ρ lo n) (hn : n ≤ 100000) (f : Nat → Bool) (r : Nat → PyData) (hf : ∀ j, j < n → DT K tt (ρ.set k (some (.int (lo + (j : Nat))))) (f j))
    (hr : ∀ j, j < n → f j = true → DE K te (ρ.set k (some (.int (lo + (j : Nat))))) (r j)) (hfl : ∀ j, j < n → f j = true → flatD (r j) = true) : DE K (tLc wi (gName k) tt te [k]) ρ (.list (((List.range n).filter f).map r)) := fun σ H e Q q => hw σ H e _ fun H1 e1 => fun L hL => by
  refine lc_range (fun j H' => Same H1 H' ∧ ∃ acc, H' L = some (.lst acc) ∧ DpAll K H' acc (((List.range j).filter f).map r)) ⟨same_new hL, [], upd_same, .nil⟩ (fun j H' hj ⟨s, ha⟩ => ?_) (fun H' ⟨s, acc, h1, h2⟩ => ?_)
  · exact lc_turn hL (e.same e1) s (.int _) hj hn ha (hf j hj) (hr j hj) (fun i hi => hfl i (by omega)) fun H2 s2 a2 => ⟨s2, a2⟩
  · exact q _ H' (e1.trans s) (.lst (SqL.of h1) h2)
/-- [te for k in a tuple if tt] -/
theorem de_lcT {tl : TE} {ds : List PyData} {k : Nat} (hw : DE K tl ρ (.tuple ds)) (hn : ds.length ≤ 100000) (f : Nat → Bool) (r : Nat → PyData) (hf : ∀ j x, ds[j]? = some x → DT K tt (ρ.set k (some x)) (f j))
    (hr : ∀ j x, ds[j]? = some x → f j = true → DE K te (ρ.set k (some x)) (r j)) (hfl : ∀ j, j < ds.length → f j = true → flatD (r j) = true) : DE K (tLc (iTup K tl) (gName k) tt te [k]) ρ (.list (((List.range ds.length).filter f).map r)) := fun σ H e Q q => hw σ H e _ fun v H1 e1 hv => by
  cases hv with
  | @tup a xs _ hsq hA =>
    refine ⟨a, rfl, ⟨xs, hsq⟩, fun L hL => ?_⟩
    have hlen := dps_len hA
    refine lc_tup (xs := xs) (fun j H' => Same H1 H' ∧ ∃ acc, H' L = some (.lst acc) ∧ DpAll K H' acc (((List.range j).filter f).map r)) ⟨same_new hL, [], upd_same, .nil⟩ (fun j H' _ ⟨s, _⟩ => sqT_same s hsq) (fun j x H' hx ⟨s, ha⟩ => ?_) (fun H' ⟨s, acc, h1, h2⟩ => ?_)
    · have hj : j < ds.length := by
        rw [← hlen]
        exact (List.getElem?_eq_some_iff.mp hx).1
      obtain ⟨w, e2, e3⟩ := dps_get hA (List.getElem?_eq_getElem hj)
      have e4 : w = x := Option.some.inj (e2.symm.trans hx)
      subst e4
      have ej := List.getElem?_eq_getElem hj
      exact lc_turn hL (e.same e1) s (dp_same s _ e3) hj hn ha (hf j _ ej) (hr j _ ej) (fun i hi => hfl i (by omega)) fun H2 s2 a2 => ⟨s2, a2⟩
    · rw [hlen] at h2
      exact q _ H' (e1.trans s) (.lst (SqL.of h1) h2)
/-- [te for k in a list if tt] -/
theorem de_lcL {tl : TE} {ds : List PyData} {k : Nat} (hw : DE K tl ρ (.list ds)) (hn : ds.length ≤ 100000) (f : Nat → Bool) (r : Nat → PyData) (hf : ∀ j x, ds[j]? = some x → DT K tt (ρ.set k (some x)) (f j))
    (hr : ∀ j x, ds[j]? = some x → f j = true → DE K te (ρ.set k (some x)) (r j)) (hfl : ∀ j, j < ds.length → f j = true → flatD (r j) = true) : DE K (tLc (iList K tl) (gName k) tt te [k]) ρ (.list (((List.range ds.length).filter f).map r)) := fun σ H e Q q => hw σ H e _ fun v H1 e1 hv => by
  cases hv with
  | @lst a xs _ hsq hA =>
    refine ⟨a, rfl, ⟨xs, hsq⟩, fun L hL => ?_⟩
    have hlen := dps_len hA
    refine lc_list (xs := xs) (fun j H' => Same H1 H' ∧ ∃ acc, H' L = some (.lst acc) ∧ DpAll K H' acc (((List.range j).filter f).map r)) ⟨same_new hL, [], upd_same, .nil⟩ (fun j H' _ ⟨s, _⟩ => sqL_same s hsq) (fun j x H' hx ⟨s, ha⟩ => ?_) (fun H' ⟨s, acc, h1, h2⟩ => ?_)
    · have hj : j < ds.length := by
        rw [← hlen]
        exact (List.getElem?_eq_some_iff.mp hx).1
      obtain ⟨w, e2, e3⟩ := dps_get hA (List.getElem?_eq_getElem hj)
      have e4 : w = x := Option.some.inj (e2.symm.trans hx)
      subst e4
      have ej := List.getElem?_eq_getElem hj
      exact lc_turn hL (e.same e1) s (dp_same s _ e3) hj hn ha (hf j _ ej) (hr j _ ej) (fun i hi => hfl i (by omega)) fun H2 s2 a2 => ⟨s2, a2⟩
    · rw [hlen] at h2
      exact q _ H' (e1.trans s) (.lst (SqL.of h1) h2)
end

/-! ### defs -/
def spF (K : PySem.W.Frag) (R : List PyData → PyData → Prop) : Sp := fun vs H Q _ => ∃ ds d, R ds d ∧ DpAll K H vs ds ∧ ∀ v H', Same H H' → Dp K H' v d → Q v H'
theorem de_call {K : PySem.W.Frag} {R : List PyData → PyData → Prop} {ρ : Rho} {ta : TA} {E : XK} {ds : List PyData} {d : PyData} (h : DA K ta ρ ds) (hR : R ds d) : DE K (tCall (spF K R) [] E ta) ρ d := fun σ H e Q q =>
  h σ H e _ fun vs H1 e1 hv => ⟨ds, d, hR, by rw [List.append_nil]; exact hv, fun v H' s hd => q v H' (e1.trans s) hd⟩
/-- a def that is called by a name of the module -/
structure Cal (P : Program) (w : World) (K : PySem.W.Frag) (mg : Str → Option Value) (base : Heap) (k : Nat) (x : Str) (sp : Sp) : Prop where
  ex : ∃ (f : Addr) (fd : FuncData) (ps : List Str), FnOk P w K mg base CX0 k f fd ps sp ∧ mg x = some (.ref f) ∧ PySem.W.keepIn K (.ref f) = true ∧ Binds K fd ps []
theorem pe_cal {X : Cx} {k k' : Nat} {x : Str} {sp : Sp} {p pos : Pos} {e : Expr} {es : List Expr} {t : TA} (C : Cal X.prog X.w X.K X.mg X.base k x sp) (hr : Room k' X.A) (hg : Gl X x) (ha : PA X (e :: es) t) (hk : k ≤ k' := by decide)
    (hdb : (x == ("__debug__" : Str)) = false := by decide) (he : starEach (e :: es) X.env = (false, eval e X.env) :: starEach es X.env := by rfl) (hpl : (backTo pos (starEach es X.env)).any (·.1) = false := by rfl) :
    PE X (.Call (.Name x p) (e :: es) [] pos) (tCall sp [] E0 t) := by
  obtain ⟨f, fd, ps, F, hm, kp, b⟩ := C.ex
  exact pe_call F (hr.mono hk) hg hm kp b .nil pass0 ha hdb he hpl
section
variable {P : Program} {w : World} {K : PySem.W.Frag} {mg : Str → Option Value} {base : Heap}
theorem fnF {x qual : Str} {params : Arguments} {body : List Stmt} {scope : Scope} {f : Addr} {fd : FuncData} {N ps : List Str} {k : Nat} {R : List PyData → PyData → Prop} (F : FunD K x qual params body scope [] [] f fd) (S : FnScope N ps scope) (hl : ∀ ds d, R ds d → ds.length = ps.length)
    (hb : ∀ (cdv : Value) (A : Around) (outer : List Env) (s : Shared) (H : Hp) (E : XK) (ds : List PyData) (d : PyData), Room k (A.deeper (envOfC qual scope s.heap.objs.size f cdv)) → R ds d →
      ∃ t, PSs (cxOf CX0 P w K mg base N qual scope f cdv A outer s H E).nox body t ∧ DS K t (rho0 N.length ds) (.rt d)) : FnOk P w K mg base CX0 (k + 1) f fd ps (spF K R) := by
  refine F.ok S (fun vs H Q E ⟨ds, d, hR, hA, _⟩ => (dps_len hA).trans (hl ds d hR)) (fun cdv A outer s H vs Q E hr ⟨ds, d, hR, hA, q⟩ => ?_)
  obtain ⟨t, h1, h2⟩ := hb cdv A outer s H E ds d hr hR
  exact ⟨t, PSs.nox h1, h2 _ _ H (env_start hA) fun v H' s hv => q v H' s hv⟩
end
/-! ### data of this program -/
def qD (q : Q2) : PyData := .tuple [.int q.1, .int q.2]
def lD (L : List Q2) : PyData := .tuple (L.map qD)
theorem flat_q (q : Q2) : flatD (qD q) = true := by
  unfold qD
  simp [flatD, flatDs]
theorem flat_l (L : List Q2) : flatD (lD L) = true := by
  unfold lD
  rw [flatD]
  have h := flat_all (r := fun j => qD (L.getD j (0, 1))) (l := List.range L.length) fun j _ => flat_q _
  have e : (List.range L.length).map (fun j => qD (L.getD j (0, 1))) = L.map qD := by
    refine List.ext_getElem? fun i => ?_
    rw [List.getElem?_map, List.getElem?_map]
    by_cases hi : i < L.length
    · rw [List.getElem?_range hi, List.getElem?_eq_getElem hi]
      show some (qD (L.getD i (0, 1))) = some (qD L[i])
      rw [List.getD_eq_getElem?_getD, List.getElem?_eq_getElem hi]
      rfl
    · rw [List.getElem?_eq_none (by simpa using hi), List.getElem?_eq_none (by simpa using hi)]
      rfl
  rw [e] at h
  exact h
theorem at_l {L : List Q2} {i : Nat} (h : i < L.length) : atI (L.map qD) (i : Int) = some (qD (it L i)) := atI_nat (by rw [List.getElem?_map, it_get h]; rfl)
end Fw
set_option maxHeartbeats 2000000
/-! Words for the defs: while, ratios and lives as data, deep in. -/
namespace Fw
open PySem PySem.Spec PyProof.Rows L2
theorem ds_while {K : PySem.W.Frag} {ρ ρ1 : Rho} {tc : TT} {tb : TS} {α : Type} (F : α → Rho) (I : α → Prop) (c : α → Bool) (nx : α → α) (μ : α → Nat) (x0 : α) (h0 : F x0 = ρ) (i0 : I x0) (hc : ∀ x, I x → DT K tc (F x) (c x))
    (hb : ∀ x, I x → c x = true → DS K tb (F x) (.nx (F (nx x))) ∧ I (nx x) ∧ μ (nx x) < μ x) (hd : ∀ x, I x → c x = false → F x = ρ1) : DS K (tWhile tc tb) ρ (.nx ρ1) := fun D σ H e q => by
  refine ⟨fun m σ' H' => ∃ x, I x ∧ m = μ x ∧ Same H H' ∧ EnvOk K σ' H' (F x), ⟨μ x0, x0, i0, rfl, Same.refl H, by rw [h0]; exact e⟩, ?_⟩
  rintro m σ' H' ⟨x, ix, rfl, s, ok⟩
  refine hc x ix σ' H' ok _ fun H1 s1 => ?_
  cases z : c x with
  | true =>
    obtain ⟨h1, h2, h3⟩ := hb x ix z
    refine ⟨fun σ2 H2 => Same H H2 ∧ EnvOk K σ2 H2 (F (nx x)), fun σ2 H2 ⟨s2, ok2⟩ => ⟨μ (nx x), h3, nx x, h2, rfl, s2, ok2⟩, ?_⟩
    exact h1 _ σ' H1 (ok.same s1) fun σ2 H2 s2 ok2 => ⟨(s.trans s1).trans s2, ok2⟩
  | false =>
    refine q σ' H1 (s.trans s1) ?_
    rw [← hd x ix z]
    exact ok.same s1
section
variable {K : PySem.W.Frag} {ρ : Rho} {te ta tb : TE} {tl th : TO} {q : Q2} {L : List Q2} {i : Int}
theorem de_q0 (h : DE K te ρ (qD q)) : DE K (tOp (rIxT K) te (tC (.int 0))) ρ (.int q.1) := de_ixT h de_int rfl
theorem de_q1 (h : DE K te ρ (qD q)) : DE K (tOp (rIxT K) te (tC (.int 1))) ρ (.int q.2) := de_ixT h de_int rfl
theorem de_li {n : Nat} (h : DE K ta ρ (lD L)) (hi : DE K tb ρ (.int i)) (e : i = (n : Int)) (hn : n < L.length) : DE K (tOp (rIxT K) ta tb) ρ (qD (it L n)) := by
  subst e
  exact de_ixT h hi (at_l hn)
theorem de_llen (h : DE K te ρ (lD L)) : DE K (tCB (fun xs H Q => ∃ p ys, xs = [.ref p] ∧ (SqL K H p ys ∨ SqT K H p ys) ∧ Q (.int ys.length) H) (tCons te tNil)) ρ (.int (L.length : Nat)) := by
  have k := de_lenT h
  rw [List.length_map] at k
  exact k
theorem sIx_drop {n t : Nat} (h : t ≤ n) : HT.sIx n 0 (some (t : Int)) = t := by
  rw [HT.sIx_nat]
  omega
/-- L[t:] -/
theorem de_ldrop {t : Nat} (h : DE K te ρ (lD L)) (hi : DE K tb ρ (.int (t : Nat))) (ht : t ≤ L.length) : DE K (tSl (rSlA K) te (tPart tb) tNoPart) ρ (lD (L.drop t)) := by
  refine de_is (de_slT h (do_some hi) do_none) ?_
  unfold lD cutD
  rw [List.length_map, sIx_drop ht, HT.sIx_none, List.map_drop, List.take_of_length_le]
  rw [List.length_drop, List.length_map]
  exact Nat.le_refl _
/-- L[:-1] -/
theorem de_linit (h : DE K te ρ (lD L)) (hi : DE K tb ρ (.int (-1))) (hl : 1 ≤ L.length) : DE K (tSl (rSlA K) te tNoPart (tPart tb)) ρ (lD (L.take (L.length - 1))) := by
  refine de_is (de_slT h do_none (do_some hi)) ?_
  unfold lD cutD
  have e : HT.sIx (L.map qD).length (L.map qD).length (some (-1)) = L.length - 1 := by
    rw [List.length_map]
    show (if (-1 : Int) < 0 then ((-1 : Int) + (L.length : Int)).toNat else min (-1 : Int).toNat L.length) = L.length - 1
    rw [if_pos (by decide)]
    omega
  rw [e, HT.sIx_none, List.drop_zero, Nat.sub_zero, List.map_take]
/-- shaped data -/
theorem depth_q (q : Q2) : (qD q).depth = 1 := by simp [qD, PyData.depth, PyData.depthAll]
theorem lay_q (q : Q2) : (qD q).canLay0 = true := by simp [qD, PyData.canLay0, PyData.canLayAll0]
theorem shaped_q (q : Q2) : SeqAt.shaped (qD q) = true := by
  show ((qD q).canLay0 && decide ((qD q).depth ≤ 64)) = true
  rw [lay_q, depth_q]
  rfl
theorem lay_qs : ∀ L : List Q2, PyData.canLayAll0 (L.map qD) = true
  | [] => by simp [PyData.canLayAll0]
  | q :: L => by simp [PyData.canLayAll0, lay_q q, lay_qs L]
theorem depth_qs : ∀ L : List Q2, PyData.depthAll (L.map qD) ≤ 1
  | [] => by simp [PyData.depthAll]
  | q :: L => by
    have h1 := depth_qs L
    have h2 := depth_q q
    simp only [List.map_cons, PyData.depthAll]
    omega
theorem shaped_l (L : List Q2) : SeqAt.shaped (lD L) = true := by
  have h1 := depth_qs L
  have h2 : PyData.depth (lD L) ≤ 64 := by
    unfold lD
    simp only [PyData.depth]
    omega
  show (PyData.canLay0 (lD L) && decide (PyData.depth (lD L) ≤ 64)) = true
  rw [Bool.and_eq_true]
  refine ⟨?_, decide_eq_true h2⟩
  unfold lD
  simp only [PyData.canLay0]
  exact lay_qs L
def flatS : PyData → Bool
  | .none => true
  | .bool _ => true
  | .int _ => true
  | _ => false
theorem shaped_flat : ∀ {ds : List PyData}, ds.all flatS = true → SeqAt.shaped (.list ds) = true := by
  have key : ∀ ds : List PyData, ds.all flatS = true → PyData.canLayAll0 ds = true ∧ PyData.depthAll ds = 0 := by
    intro ds
    induction ds with
    | nil => intro _; exact ⟨by simp [PyData.canLayAll0], by simp [PyData.depthAll]⟩
    | cons d ds ih =>
      intro h
      rw [List.all_cons, Bool.and_eq_true] at h
      obtain ⟨h1, h2⟩ := ih h.2
      have hd : d.canLay0 = true ∧ d.depth = 0 := by
        cases d with
        | none => exact ⟨by simp [PyData.canLay0], by simp [PyData.depth]⟩
        | bool b => exact ⟨by simp [PyData.canLay0], by simp [PyData.depth]⟩
        | int i => exact ⟨by simp [PyData.canLay0], by simp [PyData.depth]⟩
        | str x => exact absurd h.1 (by simp [flatS])
        | list x => exact absurd h.1 (by simp [flatS])
        | tuple x => exact absurd h.1 (by simp [flatS])
        | dict x => exact absurd h.1 (by simp [flatS])
      exact ⟨by simp [PyData.canLayAll0, h1, hd.1], by simp [PyData.depthAll, h2, hd.2]⟩
  intro ds h
  obtain ⟨h1, h2⟩ := key ds h
  show (PyData.canLay0 (.list ds) && decide (PyData.depth (.list ds) ≤ 64)) = true
  rw [Bool.and_eq_true]
  refine ⟨by simp only [PyData.canLay0]; exact h1, decide_eq_true ?_⟩
  simp only [PyData.depth, h2]
  decide
theorem eqv_nil (ds : List PyData) : PyData.eqv (.list ds) (.list []) = ds.isEmpty := by
  cases ds <;> simp [PyData.eqv, PyData.eqvAll]
theorem eqv_q (p q : Q2) : PyData.eqv (qD p) (qD q) = decide (p = q) := by
  have e : PyData.eqv (qD p) (qD q) = ((p.1 == q.1) && ((p.2 == q.2) && true)) := by simp only [qD, PyData.eqv, PyData.eqvAll]
  rw [e, Bool.and_true]
  obtain ⟨a, b⟩ := p
  obtain ⟨c, d⟩ := q
  show ((a == c) && (b == d)) = decide ((a, b) = (c, d))
  rw [Bool.eq_iff_iff]
  simp
/-- x in a tuple of data -/
def rInT (K : PySem.W.Frag) : R2 := fun x y H Q => ∃ d ds, Dp K H x d ∧ Dp K H y (.tuple ds) ∧ SeqAt.shaped d = true ∧ SeqAt.shaped (.tuple ds) = true ∧ Q (.bl (ds.any fun z => PyData.eqv z d)) H
theorem op_inT {X : Cx} (hu : X.A.units + 65 < cLine) : OpR X (compareOp .In) (rInT X.K) := by
  intro pins s σ H x y v u Q I rx ry h
  obtain ⟨d, ds, hd, he, sd, se, q⟩ := h
  obtain ⟨as, r1⟩ := Dp.reads I d x v hd rx
  obtain ⟨bs, r2⟩ := Dp.reads I (.tuple ds) y u he ry
  exact SeqAt.in_tuple_reads r2 r1 (SeqAt.canLay_of_shaped se) (SeqAt.canLay_of_shaped sd) (room_in_shaped sd hu) ⟨.bl _, H, I, rfl, q⟩
theorem de_inT {d : PyData} {ds : List PyData} {b : Bool} (ha : DE K ta ρ d) (hb : DE K tb ρ (.tuple ds)) (h1 : SeqAt.shaped d = true) (h2 : SeqAt.shaped (.tuple ds) = true) (hv : (ds.any fun z => PyData.eqv z d) = b) : DE K (tOp (rInT K) ta tb) ρ (.bool b) := fun σ H e Q q =>
  ha σ H e _ fun x H1 e1 hx => hb σ H1 (e.same e1) _ fun y H2 e2 hy => by
    refine ⟨d, ds, dp_same e2 d hx, hy, h1, h2, ?_⟩
    rw [hv]
    exact q _ H2 (e1.trans e2) (.bl b)
end
theorem Room.u64 {k : Nat} {A : Around} (r : Room k A) : A.units + 64 < cLine := r.units
theorem Room.u65 {k : Nat} {A : Around} (r : Room k A) : A.units + 65 < cLine := by
  have := r.un
  omega
/-! ### facts about the module -/
structure Txt (K : PySem.W.Frag) (mg : Str → Option Value) (aZ aO aR : Addr) : Prop where
  len : mg "len" = none
  range : mg "range" = none
  isinstance : mg "isinstance" = none
  int : mg "int" = none
  bool : mg "bool" = none
  str : mg "str" = none
  tuple : mg "tuple" = none
  list : mg "list" = none
  abs : mg "abs" = none
  sorted : mg "sorted" = none
  g_most : ∃ t, mg "MOST_ITEMS" = some (.int 13 t)
  g_ZERO : mg "ZERO" = some (.ref aZ)
  g_ONE : mg "ONE" = some (.ref aO)
  g_ORDERS : mg "ORDERS" = some (.ref aR)
  t_ZERO : ∀ H, SqT K H aZ [.int 0, .int 1]
  t_ONE : ∀ H, SqT K H aO [.int 1, .int 1]
  t_ORDERS : ∀ H, SqT K H aR [.str "chance", .str "rates", .str "odds"]
section
variable {K : PySem.W.Frag} {mg : Str → Option Value} {aZ aO aR : Addr} {ρ : Rho}
theorem de_ZERO (T : Txt K mg aZ aO aR) : DE K (tC (.ref aZ)) ρ (qD (0, 1)) := de_c fun H => .tup (T.t_ZERO H) (.cons (.int 0) (.cons (.int 1) .nil))
theorem de_ONE (T : Txt K mg aZ aO aR) : DE K (tC (.ref aO)) ρ (qD (1, 1)) := de_c fun H => .tup (T.t_ONE H) (.cons (.int 1) (.cons (.int 1) .nil))
theorem de_ORDERS (T : Txt K mg aZ aO aR) : DE K (tC (.ref aR)) ρ (.tuple [.str "chance", .str "rates", .str "odds"]) := de_c fun H => .tup (T.t_ORDERS H) (.cons (.str _) (.cons (.str _) (.cons (.str _) .nil)))
end
theorem pe_most {X : Cx} {p : Pos} (hg : Gl X "MOST_ITEMS") (h : ∃ t, X.mg "MOST_ITEMS" = some (.int 13 t)) : PE X (.Name "MOST_ITEMS" p) (tC (.int 13)) := by
  obtain ⟨t, h⟩ := h
  exact pe_glob hg h ⟨t, rfl⟩
theorem kitT {d : PyData} {n : String} {b : Bool} (t : String) (h : tyD d = t) (e : kitB t n = some b) : kitB (tyD d) n = some b := by
  rw [h]
  exact e
abbrev FnP (K : PySem.W.Frag) (x : Str) (st : Stmt) (f : Addr) (fd : FuncData) : Prop := FunD K x x (defArgs st) (defBody st) (defScope st) [] [] f fd

/-! ### more of the layer -/
theorem u65 {k : Nat} {A : Around} (r : Room k A) : A.units + 65 < cLine := by
  have := r.un
  omega
theorem ds_drop {K : PySem.W.Frag} {ρ : Rho} {te : TE} {d : PyData} (h : DE K te ρ d) : DS K (tDrop te) ρ (.nx ρ) := fun D σ H e q => h σ H e _ fun v H1 e1 _ => q σ H1 e1 (e.same e1)
section
variable {P : Program} {w : World} {K : PySem.W.Frag} {mg : Str → Option Value} {base : Heap}
/-- a def that ends without a return -/
theorem fnN {x qual : Str} {params : Arguments} {body : List Stmt} {scope : Scope} {f : Addr} {fd : FuncData} {N ps : List Str} {k : Nat} {R : List PyData → PyData → Prop} (F : FunD K x qual params body scope [] [] f fd) (S : FnScope N ps scope) (hl : ∀ ds d, R ds d → ds.length = ps.length)
    (hn : ∀ ds d, R ds d → d = .none) (hb : ∀ (cdv : Value) (A : Around) (outer : List Env) (s : Shared) (H : Hp) (E : XK) (ds : List PyData) (d : PyData), Room k (A.deeper (envOfC qual scope s.heap.objs.size f cdv)) → R ds d →
      ∃ t, PSs (cxOf CX0 P w K mg base N qual scope f cdv A outer s H E).nox body t ∧ ∃ ρ', DS K t (rho0 N.length ds) (.nx ρ')) : FnOk P w K mg base CX0 (k + 1) f fd ps (spF K R) := by
  refine F.ok S (fun vs H Q E ⟨ds, d, hR, hA, _⟩ => (dps_len hA).trans (hl ds d hR)) (fun cdv A outer s H vs Q E hr ⟨ds, d, hR, hA, q⟩ => ?_)
  obtain ⟨t, h1, ρ', h2⟩ := hb cdv A outer s H E ds d hr hR
  exact ⟨t, PSs.nox h1, h2 _ _ H (env_start hA) fun σ' H' s _ => q .non H' s (by rw [hn ds d hR]; exact .non)⟩
/-- a call's name stands for the def -/
theorem Cal.of {x : Str} {sp : Sp} {k : Nat} {f : Addr} {fd : FuncData} {ps : List Str} (F : FnOk P w K mg base CX0 k f fd ps sp) (hm : mg x = some (.ref f)) (kp : PySem.W.keepIn K (.ref f) = true) (b : Binds K fd ps []) : Cal P w K mg base k x sp := ⟨f, fd, ps, F, hm, kp, b⟩
end
theorem filt_none {n : Nat} {f : Nat → Bool} (h : ∀ j, j < n → f j = false) : (List.range n).filter f = [] := List.filter_eq_nil_iff.mpr fun j hj => by
  rw [h j (List.mem_range.mp hj)]
  exact Bool.false_ne_true
theorem filt_all {n : Nat} : (List.range n).filter (fun _ => true) = List.range n := List.filter_eq_self.mpr fun _ _ => rfl
section
variable {K : PySem.W.Frag} {ρ : Rho} {te ta tb : TE} {tt : TT} {L : List Q2} {wi : TI} {lo : Int} {n k : Nat}
/-- [te for k in range], no test -/
theorem de_lcR1 (hw : DW K wi ρ lo n) (hn : n ≤ 100000) (r : Nat → PyData) (hr : ∀ j, j < n → DE K te (ρ.set k (some (.int (lo + (j : Nat))))) (r j)) (hfl : ∀ j, j < n → flatD (r j) = true) : DE K (tLc wi (gName k) tYes te [k]) ρ (.list ((List.range n).map r)) := by
  have h := de_lcR (tt := tYes) (te := te) (k := k) hw hn (fun _ => true) r (fun j _ => dt_yes) (fun j hj _ => hr j hj) (fun j hj _ => hfl j hj)
  rw [filt_all] at h
  exact h
theorem l_item {j : Nat} {x : PyData} (h : (L.map qD)[j]? = some x) : j < L.length ∧ x = qD (it L j) := by
  rw [List.getElem?_map] at h
  cases e : L[j]? with
  | none =>
    rw [e] at h
    cases h
  | some q =>
    rw [e] at h
    refine ⟨(List.getElem?_eq_some_iff.mp e).1, ?_⟩
    rw [it_of e]
    exact (Option.some.inj h).symm
/-- [te for k in a tuple of ratios], no test -/
theorem de_lcL1 {tl : TE} (hw : DE K tl ρ (lD L)) (hn : L.length ≤ 100000) (r : Nat → PyData) (hr : ∀ j, j < L.length → DE K te (ρ.set k (some (qD (it L j)))) (r j)) (hfl : ∀ j, j < L.length → flatD (r j) = true) : DE K (tLc (iTup K tl) (gName k) tYes te [k]) ρ (.list ((List.range L.length).map r)) := by
  have h := de_lcT (ds := L.map qD) (tt := tYes) (te := te) (k := k) hw (by rw [List.length_map]; exact hn) (fun _ => true) r (fun j _ _ => dt_yes) (fun j x hj _ => by
    obtain ⟨h1, rfl⟩ := l_item hj
    exact hr j h1) (fun j hj _ => hfl j (by rw [List.length_map] at hj; exact hj))
  rw [filt_all, List.length_map] at h
  exact h
/-- the last item -/
theorem de_llast (h : DE K ta ρ (lD L)) (hl : 1 ≤ L.length) : DE K (tOp (rIxT K) ta (tUn (rU fun i => .int (-i)) (tC (.int 1)))) ρ (qD (it L (L.length - 1))) := by
  refine de_ixT h (de_neg de_int) ?_
  have e : L = L.take (L.length - 1) ++ [it L (L.length - 1)] := by
    have h1 := it_get (L := L) (i := L.length - 1) (by omega)
    have h2 := List.take_add_one (l := L) (i := L.length - 1)
    rw [h1, show L.length - 1 + 1 = L.length by omega, List.take_length] at h2
    exact h2
  show atI (L.map qD) (-1) = _
  have e2 : L.map qD = (L.take (L.length - 1)).map qD ++ [qD (it L (L.length - 1))] := by
    have e3 := congrArg (List.map qD) e
    rw [List.map_append] at e3
    exact e3
  rw [e2]
  exact atI_last _ _
theorem de_lenS {ds : List PyData} {m : Int} (h : DE K te ρ (.list ds)) (e : (ds.length : Int) = m) : DE K (tCB (fun xs H Q => ∃ p ys, xs = [.ref p] ∧ (SqL K H p ys ∨ SqT K H p ys) ∧ Q (.int ys.length) H) (tCons te tNil)) ρ (.int m) := by
  rw [← e]
  exact de_lenL h
theorem i_is {i j : Int} (h : DE K te ρ (.int i)) (e : i = j) : DE K te ρ (.int j) := by
  rw [← e]
  exact h
/-- word not in a tuple of words of the module -/
theorem de_notW {a : Addr} {x : Str} {xs : List Str} {b : Bool} (ha : DE K ta ρ (.str x)) (ht : ∀ H, SqT K H a (xs.map V.str)) (hb : inV (.str x) (xs.map V.str) = b) : DE K (tOp (rIn K true) ta (tC (.ref a))) ρ (.bool (!b)) := fun σ H e Q q =>
  ha σ H e _ fun v H1 e1 hv => by
    cases hv
    refine ⟨a, xs.map V.str, rfl, .inr (ht H1), rfl, ?_, ?_⟩
    · rw [List.all_map]
      exact List.all_eq_true.mpr fun _ _ => rfl
    · rw [hb]
      exact q _ H1 e1 (.bl _)
end
/-! ### lives with a size -/
structure Lf (n : Nat) (L : List Q2) : Prop where
  life : Life L
  sz : ∀ q ∈ L, Sz n q
theorem Lf.at_ {n : Nat} {L : List Q2} (h : Lf n L) {i : Nat} (hi : i < L.length) : Sz n (it L i) := h.sz _ (List.mem_of_getElem? (it_get hi))
theorem Lf.it_ {n : Nat} {L : List Q2} (h : Lf n L) (hn : 1 ≤ n) (i : Nat) : Sz n (it L i) := by
  by_cases hi : i < L.length
  · exact h.at_ hi
  · rw [it_out (by omega)]
    exact sz_zero.mono hn
theorem Lf.mono {n m : Nat} {L : List Q2} (h : Lf n L) (e : n ≤ m) : Lf m L := ⟨h.life, fun q hq => (h.sz q hq).mono e⟩
theorem Lf.left {L : List Q2} (h : Lf 50 L) {t : Nat} (e : t + 1 < L.length) : Lf 100 (left L t) := by
  refine ⟨h.life.left e, fun q hq => ?_⟩
  unfold Fw.left at hq
  obtain ⟨p, hp, rfl⟩ := List.mem_map.mp hq
  exact Sz.div (h.sz p (List.mem_of_mem_drop hp)) (h.at_ (by omega)) (h.life.np t e)
theorem left_range (L : List Q2) (t : Nat) : (List.range (L.drop t).length).map (fun j => qD (divQ (it (L.drop t) j) (it L t))) = (left L t).map qD := by
  unfold left
  refine List.ext_getElem? fun i => ?_
  rw [List.getElem?_map, List.getElem?_map, List.getElem?_map]
  by_cases hi : i < (L.drop t).length
  · rw [List.getElem?_range hi, it_get hi]
    rfl
  · rw [List.getElem?_eq_none (by simpa using hi), List.getElem?_eq_none (by simpa using hi)]
    rfl
end Fw
/-! The text by places; the names of each def. -/
namespace Fw
open PySem PySem.Spec PyProof.Rows L2
def top (i : Nat) : Stmt := PySem.Challenge.pw_faultworks_k57_whole_lives_that_are_left.main.body.getD i (.Pass ⟨0, 0, 0, 0⟩)
abbrev s_is_in : Stmt := top 6
abbrev N_is_in : List Str := ["value", "least", "most"]
theorem sc_is_in : FnScope N_is_in ["value", "least", "most"] (defScope s_is_in) := ⟨rfl, rfl, rfl, by decide +kernel, rfl, by decide +kernel, by decide +kernel⟩
abbrev s_gcd : Stmt := top 7
abbrev N_gcd : List Str := ["one", "other"]
theorem sc_gcd : FnScope N_gcd ["one", "other"] (defScope s_gcd) := ⟨rfl, rfl, rfl, by decide +kernel, rfl, by decide +kernel, by decide +kernel⟩
abbrev s_reduced : Stmt := top 8
abbrev N_reduced : List Str := ["numerator", "denominator", "common"]
theorem sc_reduced : FnScope N_reduced ["numerator", "denominator"] (defScope s_reduced) := ⟨rfl, rfl, rfl, by decide +kernel, rfl, by decide +kernel, by decide +kernel⟩
abbrev s_plus : Stmt := top 9
abbrev N_plus : List Str := ["one", "other"]
theorem sc_plus : FnScope N_plus ["one", "other"] (defScope s_plus) := ⟨rfl, rfl, rfl, by decide +kernel, rfl, by decide +kernel, by decide +kernel⟩
abbrev s_minus : Stmt := top 10
abbrev N_minus : List Str := ["one", "other"]
theorem sc_minus : FnScope N_minus ["one", "other"] (defScope s_minus) := ⟨rfl, rfl, rfl, by decide +kernel, rfl, by decide +kernel, by decide +kernel⟩
abbrev s_times : Stmt := top 11
abbrev N_times : List Str := ["one", "other"]
theorem sc_times : FnScope N_times ["one", "other"] (defScope s_times) := ⟨rfl, rfl, rfl, by decide +kernel, rfl, by decide +kernel, by decide +kernel⟩
abbrev s_over : Stmt := top 12
abbrev N_over : List Str := ["one", "other"]
theorem sc_over : FnScope N_over ["one", "other"] (defScope s_over) := ⟨rfl, rfl, rfl, by decide +kernel, rfl, by decide +kernel, by decide +kernel⟩
abbrev s_is_below_numbers : Stmt := top 13
abbrev N_is_below_numbers : List Str := ["one", "other"]
theorem sc_is_below_numbers : FnScope N_is_below_numbers ["one", "other"] (defScope s_is_below_numbers) := ⟨rfl, rfl, rfl, by decide +kernel, rfl, by decide +kernel, by decide +kernel⟩
abbrev s_is_ratio : Stmt := top 15
abbrev N_is_ratio : List Str := ["value", "item"]
theorem sc_is_ratio : FnScope N_is_ratio ["value"] (defScope s_is_ratio) := ⟨rfl, rfl, rfl, by decide +kernel, rfl, by decide +kernel, by decide +kernel⟩
abbrev s_is_less : Stmt := top 16
abbrev N_is_less : List Str := ["one", "other"]
theorem sc_is_less : FnScope N_is_less ["one", "other"] (defScope s_is_less) := ⟨rfl, rfl, rfl, by decide +kernel, rfl, by decide +kernel, by decide +kernel⟩
abbrev s_is_chance : Stmt := top 20
abbrev N_is_chance : List Str := ["value"]
theorem sc_is_chance : FnScope N_is_chance ["value"] (defScope s_is_chance) := ⟨rfl, rfl, rfl, by decide +kernel, rfl, by decide +kernel, by decide +kernel⟩
abbrev s_total_of : Stmt := top 21
abbrev N_total_of : List Str := ["values", "found", "value"]
theorem sc_total_of : FnScope N_total_of ["values"] (defScope s_total_of) := ⟨rfl, rfl, rfl, by decide +kernel, rfl, by decide +kernel, by decide +kernel⟩
abbrev s_is_life : Stmt := top 24
abbrev N_is_life : List Str := ["value", "t", "one"]
theorem sc_is_life : FnScope N_is_life ["value"] (defScope s_is_life) := ⟨rfl, rfl, rfl, by decide +kernel, rfl, by decide +kernel, by decide +kernel⟩
abbrev s_need_life : Stmt := top 25
abbrev N_need_life : List Str := ["life"]
theorem sc_need_life : FnScope N_need_life ["life"] (defScope s_need_life) := ⟨rfl, rfl, rfl, by decide +kernel, rfl, by decide +kernel, by decide +kernel⟩
abbrev s_mean_life : Stmt := top 26
abbrev N_mean_life : List Str := ["life"]
theorem sc_mean_life : FnScope N_mean_life ["life"] (defScope s_mean_life) := ⟨rfl, rfl, rfl, by decide +kernel, rfl, by decide +kernel, by decide +kernel⟩
abbrev s_rates_of : Stmt := top 27
abbrev N_rates_of : List Str := ["life", "t"]
theorem sc_rates_of : FnScope N_rates_of ["life"] (defScope s_rates_of) := ⟨rfl, rfl, rfl, by decide +kernel, rfl, by decide +kernel, by decide +kernel⟩
abbrev s_older : Stmt := top 28
abbrev N_older : List Str := ["life", "t", "one"]
theorem sc_older : FnScope N_older ["life", "t"] (defScope s_older) := ⟨rfl, rfl, rfl, by decide +kernel, rfl, by decide +kernel, by decide +kernel⟩
abbrev s_item : Stmt := top 29
abbrev N_item : List Str := ["life", "t"]
theorem sc_item : FnScope N_item ["life", "t"] (defScope s_item) := ⟨rfl, rfl, rfl, by decide +kernel, rfl, by decide +kernel, by decide +kernel⟩
abbrev s_power : Stmt := top 33
abbrev N_power : List Str := ["base", "exponent", "found", "turn"]
theorem sc_power : FnScope N_power ["base", "exponent"] (defScope s_power) := ⟨rfl, rfl, rfl, by decide +kernel, rfl, by decide +kernel, by decide +kernel⟩
abbrev s_falling_rate : Stmt := top 34
abbrev N_falling_rate : List Str := ["life", "row", "found", "t"]
theorem sc_falling_rate : FnScope N_falling_rate ["life"] (defScope s_falling_rate) := ⟨rfl, rfl, rfl, by decide +kernel, rfl, by decide +kernel, by decide +kernel⟩
abbrev s_falling_average : Stmt := top 35
abbrev N_falling_average : List Str := ["life", "t"]
theorem sc_falling_average : FnScope N_falling_average ["life"] (defScope s_falling_average) := ⟨rfl, rfl, rfl, by decide +kernel, rfl, by decide +kernel, by decide +kernel⟩
abbrev s_better_than_new : Stmt := top 36
abbrev N_better_than_new : List Str := ["life", "s", "t"]
theorem sc_better_than_new : FnScope N_better_than_new ["life"] (defScope s_better_than_new) := ⟨rfl, rfl, rfl, by decide +kernel, rfl, by decide +kernel, by decide +kernel⟩
abbrev s_better_mean : Stmt := top 37
abbrev N_better_mean : List Str := ["life", "mean", "t"]
theorem sc_better_mean : FnScope N_better_mean ["life"] (defScope s_better_mean) := ⟨rfl, rfl, rfl, by decide +kernel, rfl, by decide +kernel, by decide +kernel⟩
abbrev s_ages : Stmt := top 38
abbrev N_ages : List Str := ["life", "work"]
theorem sc_ages : FnScope N_ages ["life"] (defScope s_ages) := ⟨rfl, rfl, rfl, by decide +kernel, rfl, by decide +kernel, by decide +kernel⟩
abbrev s_below_by : Stmt := top 40
abbrev N_below_by : List Str := ["one", "other", "word", "t"]
theorem sc_below_by : FnScope N_below_by ["one", "other", "word"] (defScope s_below_by) := ⟨rfl, rfl, rfl, by decide +kernel, rfl, by decide +kernel, by decide +kernel⟩
abbrev s_is_below_ageing : Stmt := top 41
abbrev N_is_below_ageing : List Str := ["one", "other", "word"]
theorem sc_is_below_ageing : FnScope N_is_below_ageing ["one", "other", "word"] (defScope s_is_below_ageing) := ⟨rfl, rfl, rfl, by decide +kernel, rfl, by decide +kernel, by decide +kernel⟩
abbrev s__law_taken : Stmt := top 44
abbrev N__law_taken : List Str := ["_law_row", "_law_many", "_law_found", "_law_cell"]
theorem sc__law_taken : FnScope N__law_taken ["_law_row", "_law_many"] (defScope s__law_taken) := ⟨rfl, rfl, rfl, by decide +kernel, rfl, by decide +kernel, by decide +kernel⟩
abbrev s__law_pick : Stmt := top 45
abbrev N__law_pick : List Str := ["_law_row", "_law_things"]
theorem sc__law_pick : FnScope N__law_pick ["_law_row", "_law_things"] (defScope s__law_pick) := ⟨rfl, rfl, rfl, by decide +kernel, rfl, by decide +kernel, by decide +kernel⟩
abbrev s__law_gcd : Stmt := top 46
abbrev N__law_gcd : List Str := ["_law_one", "_law_other"]
theorem sc__law_gcd : FnScope N__law_gcd ["_law_one", "_law_other"] (defScope s__law_gcd) := ⟨rfl, rfl, rfl, by decide +kernel, rfl, by decide +kernel, by decide +kernel⟩
abbrev s__law_ratio : Stmt := top 47
abbrev N__law_ratio : List Str := ["_law_numerator", "_law_denominator", "_law_common"]
theorem sc__law_ratio : FnScope N__law_ratio ["_law_numerator", "_law_denominator"] (defScope s__law_ratio) := ⟨rfl, rfl, rfl, by decide +kernel, rfl, by decide +kernel, by decide +kernel⟩
abbrev s__law_times : Stmt := top 48
abbrev N__law_times : List Str := ["_law_one", "_law_other"]
theorem sc__law_times : FnScope N__law_times ["_law_one", "_law_other"] (defScope s__law_times) := ⟨rfl, rfl, rfl, by decide +kernel, rfl, by decide +kernel, by decide +kernel⟩
abbrev s__law_life : Stmt := top 49
abbrev N__law_life : List Str := ["_law_row", "_law_most", "_law_many", "_law_way", "_law_found", "_law_below", "_law_tops", "_law_life_here", "_law_top", "_law_k"]
theorem sc__law_life : FnScope N__law_life ["_law_row", "_law_most"] (defScope s__law_life) := ⟨rfl, rfl, rfl, by decide +kernel, rfl, by decide +kernel, by decide +kernel⟩
abbrev s__law_less : Stmt := top 50
abbrev N__law_less : List Str := ["_law_one", "_law_other"]
theorem sc__law_less : FnScope N__law_less ["_law_one", "_law_other"] (defScope s__law_less) := ⟨rfl, rfl, rfl, by decide +kernel, rfl, by decide +kernel, by decide +kernel⟩
abbrev s__law_alike : Stmt := top 51
abbrev N__law_alike : List Str := ["_law_found", "_law_due", "_law_k"]
theorem sc__law_alike : FnScope N__law_alike ["_law_found", "_law_due"] (defScope s__law_alike) := ⟨rfl, rfl, rfl, by decide +kernel, rfl, by decide +kernel, by decide +kernel⟩
abbrev s__law_plus : Stmt := top 52
abbrev N__law_plus : List Str := ["_law_one", "_law_other"]
theorem sc__law_plus : FnScope N__law_plus ["_law_one", "_law_other"] (defScope s__law_plus) := ⟨rfl, rfl, rfl, by decide +kernel, rfl, by decide +kernel, by decide +kernel⟩
abbrev s__law_sum : Stmt := top 53
abbrev N__law_sum : List Str := ["_law_values", "_law_found", "_law_one"]
theorem sc__law_sum : FnScope N__law_sum ["_law_values"] (defScope s__law_sum) := ⟨rfl, rfl, rfl, by decide +kernel, rfl, by decide +kernel, by decide +kernel⟩
abbrev s__law_less_one : Stmt := top 54
abbrev N__law_less_one : List Str := ["_law_one"]
theorem sc__law_less_one : FnScope N__law_less_one ["_law_one"] (defScope s__law_less_one) := ⟨rfl, rfl, rfl, by decide +kernel, rfl, by decide +kernel, by decide +kernel⟩
abbrev s__law_rates : Stmt := top 55
abbrev N__law_rates : List Str := ["_law_life_here", "_law_found", "_law_t", "_law_a", "_law_b"]
theorem sc__law_rates : FnScope N__law_rates ["_law_life_here"] (defScope s__law_rates) := ⟨rfl, rfl, rfl, by decide +kernel, rfl, by decide +kernel, by decide +kernel⟩
abbrev s__law_power : Stmt := top 56
abbrev N__law_power : List Str := ["_law_base", "_law_exponent", "_law_found", "_law_turn"]
theorem sc__law_power : FnScope N__law_power ["_law_base", "_law_exponent"] (defScope s__law_power) := ⟨rfl, rfl, rfl, by decide +kernel, rfl, by decide +kernel, by decide +kernel⟩
abbrev s__law_item : Stmt := top 57
abbrev N__law_item : List Str := ["_law_life_here", "_law_t"]
theorem sc__law_item : FnScope N__law_item ["_law_life_here", "_law_t"] (defScope s__law_item) := ⟨rfl, rfl, rfl, by decide +kernel, rfl, by decide +kernel, by decide +kernel⟩
abbrev s__law_not_ageing : Stmt := top 58
abbrev N__law_not_ageing : List Str := ["_law_life_here", "_law_word", "_law_size", "_law_mean", "_law_row", "_law_t", "_law_found", "_law_s"]
theorem sc__law_not_ageing : FnScope N__law_not_ageing ["_law_life_here", "_law_word"] (defScope s__law_not_ageing) := ⟨rfl, rfl, rfl, by decide +kernel, rfl, by decide +kernel, by decide +kernel⟩
abbrev s_law : Stmt := top 59
abbrev N_law : List Str := ["_law_script", "_law_row", "_law_life_here", "_law_left", "_law_told", "_law_falls", "_law_fresh", "_law_short", "_law_due", "_law_t", "_law_word"]
theorem sc_law : FnScope N_law ["_law_script"] (defScope s_law) := ⟨rfl, rfl, rfl, by decide +kernel, rfl, by decide +kernel, by decide +kernel⟩
end Fw
set_option maxHeartbeats 4000000
namespace Fw
open PySem PySem.Spec PyProof.Rows L2
section
variable {P : Program} {w : World} {K : PySem.W.Frag} {mg : Str → Option Value} {base : Heap} {aZ aO aR f : Addr} {fd : FuncData}

def R_is_in (ds : List PyData) (d : PyData) : Prop := ∃ v lo hi : Int, ds = [.int v, .int lo, .int hi] ∧ d = .bool (decide (lo ≤ v) && decide (v ≤ hi))

theorem ok_is_in (F : FnP K "is_in" s_is_in f fd) (T : Txt K mg aZ aO aR)   : FnOk P w K mg base CX0 1 f fd ["value", "least", "most"] (spF K R_is_in) := by
  refine fnF F sc_is_in (fun ds d h => ?_) (fun cdv A outer s H E ds d hr h => ⟨_, (pss_one (ps_ret (pe_and (pe_callB call_isi (by rfl) T.isinstance (by decide +kernel) (pa_cons (pv 0) (pa_cons (pe_bltn (v := .ty "int") (u := .type "int") (by rfl) T.int (by decide +kernel) rfl) pa_nil))) (pe_and (pe_not (pe_callB call_isi (by rfl) T.isinstance (by decide +kernel) (pa_cons (pv 0) (pa_cons (pe_bltn (v := .ty "bool") (u := .type "bool") (by rfl) T.bool (by decide +kernel) rfl) pa_nil)))) (pe_one (pe_chain op_le op_le (pv 1) (pv 0) (pv 2))))))), ?_⟩)
  · obtain ⟨_, _, _, rfl, _⟩ := h
    rfl

  · obtain ⟨v, lo, hi, rfl, rfl⟩ := h
    refine ds_ret (de_is (de_andV (de_isi (d := .int v) (de_var rfl) (b := true) (kitT "int" rfl (by decide +kernel))) fun _ => de_andV (de_notV (de_isi (d := .int v) (de_var rfl) (b := false) (kitT "int" rfl (by decide +kernel)))) fun _ => de_chain (g := fun i j => decide (i ≤ j)) (g' := fun i j => decide (i ≤ j)) (de_var rfl) (de_var rfl) (de_var rfl)) ?_)
    rfl
theorem gcd_abs (a b : Int) : Int.gcd ((a.natAbs : Nat) : Int) ((b.natAbs : Nat) : Int) = Int.gcd a b := by
  rw [Int.gcd_eq_natAbs_gcd_natAbs, Int.gcd_eq_natAbs_gcd_natAbs, Int.natAbs_natCast, Int.natAbs_natCast]
theorem gcd_turn {x y : Int} {n : Nat} (h1 : 0 ≤ x) (h4 : 0 < y) (h3 : Int.gcd x y = n) : Int.gcd y (x % y) = n := by
  rw [← h3, Int.gcd_eq_natAbs_gcd_natAbs, Int.gcd_eq_natAbs_gcd_natAbs, Int.natAbs_emod_of_nonneg h1, Nat.gcd_comm x.natAbs, Nat.gcd_rec y.natAbs x.natAbs, Nat.gcd_comm]
theorem gcd_end {x y a b : Int} (h1 : 0 ≤ x) (h5 : y = 0) (h3 : Int.gcd x y = Int.gcd a b) : x = gc a b := by
  rw [h5, Int.gcd_zero_right] at h3
  unfold gc
  rw [← h3]
  omega
def R_gcd (ds : List PyData) (d : PyData) : Prop := ∃ a b : Int, ds = [.int a, .int b] ∧ d = .int (gc a b)

theorem ok_gcd (F : FnP K "gcd" s_gcd f fd) (T : Txt K mg aZ aO aR)   : FnOk P w K mg base CX0 1 f fd ["one", "other"] (spF K R_gcd) := by
  refine fnF F sc_gcd (fun ds d h => ?_) (fun cdv A outer s H E ds d hr h => ⟨_, (pss_cons (ps_par (i := 0) (j := 1) rfl sc_gcd.nd rfl rfl (by decide) rfl rfl (pa_cons (pe_callB call_abs (by rfl) T.abs (by decide +kernel) (pa_cons (pv 0) pa_nil)) (pa_cons (pe_callB call_abs (by rfl) T.abs (by decide +kernel) (pa_cons (pv 1) pa_nil)) pa_nil)) (by rfl)) (pss_cons (ps_while PassesOwn.never (pt_cmpR op_ne (pv 1) pe_int (nomark _)) (pss_one (ps_par (i := 0) (j := 1) rfl sc_gcd.nd rfl rfl (by decide) rfl rfl (pa_cons (pv 1) (pa_cons (pe_op op_mod (pv 0) (pv 1)) pa_nil)) (by rfl)))) (pss_one (ps_ret (pv 0))))), ?_⟩)
  · obtain ⟨_, _, rfl, _⟩ := h
    rfl

  · obtain ⟨a, b, rfl, rfl⟩ := h
    refine ds_seq (ds_par (da_cons (de_abs (de_var rfl)) (da_cons (de_abs (de_var rfl)) da_nil))) ?_
    refine ds_seq (ρ1 := [some (.int (gc a b)), some (.int 0)]) (ds_while (α := Int × Int) (fun x => [some (.int x.1), some (.int x.2)]) (fun x => 0 ≤ x.1 ∧ 0 ≤ x.2 ∧ Int.gcd x.1 x.2 = Int.gcd a b) (fun x => !decide (x.2 = 0)) (fun x => (x.2, x.1 % x.2)) (fun x => x.2.natAbs)
      (((a.natAbs : Nat) : Int), ((b.natAbs : Nat) : Int)) rfl ⟨by show (0 : Int) ≤ (a.natAbs : Nat); omega, by show (0 : Int) ≤ (b.natAbs : Nat); omega, gcd_abs a b⟩ (fun x _ => dt_test (de_ne (de_var rfl) de_int sc_int)) (fun x ⟨h1, h2, h3⟩ hc => ?_) (fun x ⟨h1, h2, h3⟩ hc => ?_)) (ds_ret (de_var rfl))
    · have h4 : 0 < x.2 := by
        have h5 : ¬ x.2 = 0 := by simpa using hc
        omega
      refine ⟨ds_par (da_cons (de_var rfl) (da_cons (de_mod (de_var rfl) (de_var rfl) h4) da_nil)), ⟨h2, Int.emod_nonneg _ (by omega), gcd_turn h1 h4 h3⟩, ?_⟩
      have h6 := Int.emod_nonneg x.1 (show x.2 ≠ 0 by omega)
      have h7 := Int.emod_lt_of_pos x.1 h4
      show (x.1 % x.2).natAbs < x.2.natAbs
      omega
    · have h5 : x.2 = 0 := by simpa using hc
      show [some (PyData.int x.1), some (PyData.int x.2)] = _
      rw [gcd_end h1 h5 h3, h5]
def R_reduced (ds : List PyData) (d : PyData) : Prop := ∃ n m : Int, ds = [.int n, .int m] ∧ 0 < m ∧ m.natAbs < 2 ^ 8500 ∧ d = qD (red n m)

theorem ok_reduced (F : FnP K "reduced" s_reduced f fd) (T : Txt K mg aZ aO aR) (c_gcd : Cal P w K mg base 1 "gcd" (spF K R_gcd))  : FnOk P w K mg base CX0 2 f fd ["numerator", "denominator"] (spF K R_reduced) := by
  refine fnF F sc_reduced (fun ds d h => ?_) (fun cdv A outer s H E ds d hr h => ⟨_, (pss_cons (ps_set (i := 2) sc_reduced.nd rfl (Or.inl rfl) (pe_cal c_gcd hr (by rfl) (pa_cons (pv 0) (pa_cons (pv 1) pa_nil)))) (pss_cons (ps_if (pt_cmpR op_lt (pv 1) pe_int (nomark _)) (pss_one (ps_set (i := 2) sc_reduced.nd rfl (Or.inl rfl) (pe_un un_neg (pv 2)))) pss_nil) (pss_one (ps_ret (pe_tup (pa_cons (pe_op op_fdivW (pv 0) (pv 2)) (pa_cons (pe_op op_fdivW (pv 1) (pv 2)) pa_nil))))))), ?_⟩)
  · obtain ⟨_, _, rfl, _⟩ := h
    rfl

  · obtain ⟨n, m, rfl, hm, hs, rfl⟩ := h
    have g0 := gc_pos (n := n) hm
    have g1 := gc_le (n := n) hm
    have hc : ∀ x, CDivW x (gc n m) := fun x => wide_div g0 (Nat.lt_of_le_of_lt g1 hs) (by decide) (by decide)
    refine ds_seq (ds_set (de_call (da_cons (de_var rfl) (da_cons (de_var rfl) da_nil)) ⟨n, m, rfl, rfl⟩)) ?_
    
    refine ds_seq (ds_ifF (dt_test (de_is (de_lt (de_var rfl) de_int) (by rw [decide_eq_false (by omega)]))) ds_next) ?_
    exact ds_ret (de_tup (da_cons (de_divW (de_var rfl) (de_var rfl) (hc _)) (da_cons (de_divW (de_var rfl) (de_var rfl) (hc _)) da_nil)) (by show 2 ≤ 100000; decide))
def R_two (g : Q2 → Q2 → Q2) (pre : Q2 → Q2 → Prop) (ds : List PyData) (d : PyData) : Prop := ∃ p q : Q2, ds = [qD p, qD q] ∧ Sz 4000 p ∧ Sz 4000 q ∧ pre p q ∧ d = qD (g p q)
theorem big_mul {i j : Int} (hi : i.natAbs < 2 ^ 4000) (hj : j.natAbs < 2 ^ 4000) : CMulW i j := wide_mul hi hj (by decide) (by decide) (by decide)
theorem big_den {i j : Int} (hi : i.natAbs < 2 ^ 4000) (hj : j.natAbs < 2 ^ 4000) : (i * j).natAbs < 2 ^ 8500 := Nat.lt_of_lt_of_le (mul_lt hi hj) (pow_le (by decide))
def R_plus (ds : List PyData) (d : PyData) : Prop := R_two addQ (fun _ _ => True) ds d

theorem ok_plus (F : FnP K "plus" s_plus f fd) (T : Txt K mg aZ aO aR) (c_reduced : Cal P w K mg base 2 "reduced" (spF K R_reduced))  : FnOk P w K mg base CX0 3 f fd ["one", "other"] (spF K R_plus) := by
  refine fnF F sc_plus (fun ds d h => ?_) (fun cdv A outer s H E ds d hr h => ⟨_, (pss_one (ps_ret (pe_cal c_reduced hr (by rfl) (pa_cons (pe_op op_add (pe_op op_mulW (pe_ix (r := rIxT K) ix_tup (pv 0) pe_int (fun _ _ => rfl)) (pe_ix (r := rIxT K) ix_tup (pv 1) pe_int (fun _ _ => rfl))) (pe_op op_mulW (pe_ix (r := rIxT K) ix_tup (pv 1) pe_int (fun _ _ => rfl)) (pe_ix (r := rIxT K) ix_tup (pv 0) pe_int (fun _ _ => rfl)))) (pa_cons (pe_op op_mulW (pe_ix (r := rIxT K) ix_tup (pv 0) pe_int (fun _ _ => rfl)) (pe_ix (r := rIxT K) ix_tup (pv 1) pe_int (fun _ _ => rfl))) pa_nil))))), ?_⟩)
  · obtain ⟨_, _, rfl, _⟩ := h
    rfl

  · obtain ⟨p, q, rfl, hp, hq, hpre, rfl⟩ := h
    exact ds_ret (de_call (da_cons (de_add (de_mulW (de_q0 (q := p) (de_var rfl)) (de_q1 (q := q) (de_var rfl)) (big_mul hp.num hq.den)) (de_mulW (de_q0 (q := q) (de_var rfl)) (de_q1 (q := p) (de_var rfl)) (big_mul hq.num hp.den))) (da_cons (de_mulW (de_q1 (q := p) (de_var rfl)) (de_q1 (q := q) (de_var rfl)) (big_mul hp.den hq.den)) da_nil)) ⟨_, _, rfl, Int.mul_pos hp.pos hq.pos, big_den hp.den hq.den, rfl⟩)
def R_minus (ds : List PyData) (d : PyData) : Prop := R_two subQ (fun _ _ => True) ds d

theorem ok_minus (F : FnP K "minus" s_minus f fd) (T : Txt K mg aZ aO aR) (c_reduced : Cal P w K mg base 2 "reduced" (spF K R_reduced))  : FnOk P w K mg base CX0 3 f fd ["one", "other"] (spF K R_minus) := by
  refine fnF F sc_minus (fun ds d h => ?_) (fun cdv A outer s H E ds d hr h => ⟨_, (pss_one (ps_ret (pe_cal c_reduced hr (by rfl) (pa_cons (pe_op op_sub (pe_op op_mulW (pe_ix (r := rIxT K) ix_tup (pv 0) pe_int (fun _ _ => rfl)) (pe_ix (r := rIxT K) ix_tup (pv 1) pe_int (fun _ _ => rfl))) (pe_op op_mulW (pe_ix (r := rIxT K) ix_tup (pv 1) pe_int (fun _ _ => rfl)) (pe_ix (r := rIxT K) ix_tup (pv 0) pe_int (fun _ _ => rfl)))) (pa_cons (pe_op op_mulW (pe_ix (r := rIxT K) ix_tup (pv 0) pe_int (fun _ _ => rfl)) (pe_ix (r := rIxT K) ix_tup (pv 1) pe_int (fun _ _ => rfl))) pa_nil))))), ?_⟩)
  · obtain ⟨_, _, rfl, _⟩ := h
    rfl

  · obtain ⟨p, q, rfl, hp, hq, hpre, rfl⟩ := h
    exact ds_ret (de_call (da_cons (de_sub (de_mulW (de_q0 (q := p) (de_var rfl)) (de_q1 (q := q) (de_var rfl)) (big_mul hp.num hq.den)) (de_mulW (de_q0 (q := q) (de_var rfl)) (de_q1 (q := p) (de_var rfl)) (big_mul hq.num hp.den))) (da_cons (de_mulW (de_q1 (q := p) (de_var rfl)) (de_q1 (q := q) (de_var rfl)) (big_mul hp.den hq.den)) da_nil)) ⟨_, _, rfl, Int.mul_pos hp.pos hq.pos, big_den hp.den hq.den, rfl⟩)
def R_times (ds : List PyData) (d : PyData) : Prop := R_two mulQ (fun _ _ => True) ds d

theorem ok_times (F : FnP K "times" s_times f fd) (T : Txt K mg aZ aO aR) (c_reduced : Cal P w K mg base 2 "reduced" (spF K R_reduced))  : FnOk P w K mg base CX0 3 f fd ["one", "other"] (spF K R_times) := by
  refine fnF F sc_times (fun ds d h => ?_) (fun cdv A outer s H E ds d hr h => ⟨_, (pss_one (ps_ret (pe_cal c_reduced hr (by rfl) (pa_cons (pe_op op_mulW (pe_ix (r := rIxT K) ix_tup (pv 0) pe_int (fun _ _ => rfl)) (pe_ix (r := rIxT K) ix_tup (pv 1) pe_int (fun _ _ => rfl))) (pa_cons (pe_op op_mulW (pe_ix (r := rIxT K) ix_tup (pv 0) pe_int (fun _ _ => rfl)) (pe_ix (r := rIxT K) ix_tup (pv 1) pe_int (fun _ _ => rfl))) pa_nil))))), ?_⟩)
  · obtain ⟨_, _, rfl, _⟩ := h
    rfl

  · obtain ⟨p, q, rfl, hp, hq, hpre, rfl⟩ := h
    exact ds_ret (de_call (da_cons (de_mulW (de_q0 (q := p) (de_var rfl)) (de_q0 (q := q) (de_var rfl)) (big_mul hp.num hq.num)) (da_cons (de_mulW (de_q1 (q := p) (de_var rfl)) (de_q1 (q := q) (de_var rfl)) (big_mul hp.den hq.den)) da_nil)) ⟨_, _, rfl, Int.mul_pos hp.pos hq.pos, big_den hp.den hq.den, rfl⟩)
def R_over (ds : List PyData) (d : PyData) : Prop := R_two divQ (fun _ q => 0 < q.1) ds d

theorem ok_over (F : FnP K "over" s_over f fd) (T : Txt K mg aZ aO aR) (c_reduced : Cal P w K mg base 2 "reduced" (spF K R_reduced))  : FnOk P w K mg base CX0 3 f fd ["one", "other"] (spF K R_over) := by
  refine fnF F sc_over (fun ds d h => ?_) (fun cdv A outer s H E ds d hr h => ⟨_, (pss_one (ps_ret (pe_cal c_reduced hr (by rfl) (pa_cons (pe_op op_mulW (pe_ix (r := rIxT K) ix_tup (pv 0) pe_int (fun _ _ => rfl)) (pe_ix (r := rIxT K) ix_tup (pv 1) pe_int (fun _ _ => rfl))) (pa_cons (pe_op op_mulW (pe_ix (r := rIxT K) ix_tup (pv 0) pe_int (fun _ _ => rfl)) (pe_ix (r := rIxT K) ix_tup (pv 1) pe_int (fun _ _ => rfl))) pa_nil))))), ?_⟩)
  · obtain ⟨_, _, rfl, _⟩ := h
    rfl

  · obtain ⟨p, q, rfl, hp, hq, hpre, rfl⟩ := h
    exact ds_ret (de_call (da_cons (de_mulW (de_q0 (q := p) (de_var rfl)) (de_q1 (q := q) (de_var rfl)) (big_mul hp.num hq.den)) (da_cons (de_mulW (de_q1 (q := p) (de_var rfl)) (de_q0 (q := q) (de_var rfl)) (big_mul hp.den hq.num)) da_nil)) ⟨_, _, rfl, Int.mul_pos hp.pos hpre, big_den hp.den hq.num, rfl⟩)
def R_is_below_numbers (ds : List PyData) (d : PyData) : Prop := ∃ p q : Q2, ds = [qD p, qD q] ∧ Sz 4000 p ∧ Sz 4000 q ∧ d = .bool (ltQ p q)

theorem ok_is_below_numbers (F : FnP K "is_below" s_is_below_numbers f fd) (T : Txt K mg aZ aO aR)   : FnOk P w K mg base CX0 1 f fd ["one", "other"] (spF K R_is_below_numbers) := by
  refine fnF F sc_is_below_numbers (fun ds d h => ?_) (fun cdv A outer s H E ds d hr h => ⟨_, (pss_one (ps_ret (pe_cmpR op_lt (pe_op op_mulW (pe_ix (r := rIxT K) ix_tup (pv 0) pe_int (fun _ _ => rfl)) (pe_ix (r := rIxT K) ix_tup (pv 1) pe_int (fun _ _ => rfl))) (pe_op op_mulW (pe_ix (r := rIxT K) ix_tup (pv 1) pe_int (fun _ _ => rfl)) (pe_ix (r := rIxT K) ix_tup (pv 0) pe_int (fun _ _ => rfl))) (nomark _)))), ?_⟩)
  · obtain ⟨_, _, rfl, _⟩ := h
    rfl

  · obtain ⟨p, q, rfl, hp, hq, rfl⟩ := h
    exact ds_ret (de_lt (de_mulW (de_q0 (q := p) (de_var rfl)) (de_q1 (q := q) (de_var rfl)) (big_mul hp.num hq.den)) (de_mulW (de_q0 (q := q) (de_var rfl)) (de_q1 (q := p) (de_var rfl)) (big_mul hq.num hp.den)))
def R_is_less (ds : List PyData) (d : PyData) : Prop := ∃ p q : Q2, ds = [qD p, qD q] ∧ Sz 4000 p ∧ Sz 4000 q ∧ d = .bool (ltQ p q)

theorem ok_is_less (F : FnP K "is_less" s_is_less f fd) (T : Txt K mg aZ aO aR) (c_is_below_numbers : Cal P w K mg base 1 "is_below_numbers" (spF K R_is_below_numbers))  : FnOk P w K mg base CX0 2 f fd ["one", "other"] (spF K R_is_less) := by
  refine fnF F sc_is_less (fun ds d h => ?_) (fun cdv A outer s H E ds d hr h => ⟨_, (pss_one (ps_ret (pe_cal c_is_below_numbers hr (by rfl) (pa_cons (pv 0) (pa_cons (pv 1) pa_nil))))), ?_⟩)
  · obtain ⟨_, _, rfl, _⟩ := h
    rfl

  · obtain ⟨p, q, rfl, hp, hq, rfl⟩ := h
    exact ds_ret (de_call (da_cons (de_var rfl) (da_cons (de_var rfl) da_nil)) ⟨p, q, rfl, hp, hq, rfl⟩)
def R_is_ratio (ds : List PyData) (d : PyData) : Prop := ∃ q : Q2, ds = [qD q] ∧ 0 < q.2 ∧ Int.gcd q.1 q.2 = 1 ∧ d = .bool true

theorem ok_is_ratio (F : FnP K "is_ratio" s_is_ratio f fd) (T : Txt K mg aZ aO aR) (c_gcd : Cal P w K mg base 1 "gcd" (spF K R_gcd))  : FnOk P w K mg base CX0 2 f fd ["value"] (spF K R_is_ratio) := by
  refine fnF F sc_is_ratio (fun ds d h => ?_) (fun cdv A outer s H E ds d hr h => ⟨_, (pss_cons (ps_if (PW.pt (pw_or (pt_not (pt_val (pe_callB call_isi (by rfl) T.isinstance (by decide +kernel) (pa_cons (pv 0) (pa_cons (pe_bltn (v := .ty "tuple") (u := .type "tuple") (by rfl) T.tuple (by decide +kernel) rfl) pa_nil))))) (pw_or1 (pt_cmpR op_ne (pe_callB call_len_seq (by rfl) T.len (by decide +kernel) (pa_cons (pv 0) pa_nil)) pe_int (nomark _))))) (pss_one (ps_ret pe_bl)) pss_nil) (pss_cons (ps_for PassesOwn.never rfl (pi_tup (pv 0)) (pg_name (i := 1) sc_is_ratio.nd rfl (Or.inl rfl)) (pss_one (ps_if (PW.pt (pw_or (pt_not (pt_val (pe_callB call_isi (by rfl) T.isinstance (by decide +kernel) (pa_cons (pv 1) (pa_cons (pe_bltn (v := .ty "int") (u := .type "int") (by rfl) T.int (by decide +kernel) rfl) pa_nil))))) (pw_or1 (pt_val (pe_callB call_isi (by rfl) T.isinstance (by decide +kernel) (pa_cons (pv 1) (pa_cons (pe_bltn (v := .ty "bool") (u := .type "bool") (by rfl) T.bool (by decide +kernel) rfl) pa_nil))))))) (pss_one (ps_ret pe_bl)) pss_nil))) (pss_one (ps_ret (pe_and (pe_cmpR op_gt (pe_ix (r := rIxT K) ix_tup (pv 0) pe_int (fun _ _ => rfl)) pe_int (nomark _)) (pe_one (pe_cmpR op_eq (pe_cal c_gcd hr (by rfl) (pa_cons (pe_ix (r := rIxT K) ix_tup (pv 0) pe_int (fun _ _ => rfl)) (pa_cons (pe_ix (r := rIxT K) ix_tup (pv 0) pe_int (fun _ _ => rfl)) pa_nil))) pe_int (nomark _)))))))), ?_⟩)
  · obtain ⟨_, rfl, _⟩ := h
    rfl

  · obtain ⟨q, rfl, h1, h2, rfl⟩ := h
    refine ds_seq (ds_ifF (dt_is (dt_or (dt_not (dt_B (de_isi (d := qD q) (de_var rfl) (b := true) (kitT "tuple" rfl (by decide +kernel))))) fun _ => dt_test (de_ne (de_lenT (ds := [.int q.1, .int q.2]) (de_var rfl)) de_int sc_int)) (by rfl)) ds_next) ?_
    refine ds_seq (ds_forT (ds := [.int q.1, .int q.2]) (de_var rfl) (fun _ => [some (qD q), none]) (.keep (.drop .nil)) fun j x hj => ?_) ?_
    · obtain ⟨i, rfl⟩ : ∃ i, x = .int i := by
        match j, hj with
        | 0, hj => exact ⟨q.1, (Option.some.inj hj).symm⟩
        | 1, hj => exact ⟨q.2, (Option.some.inj hj).symm⟩
        | n + 2, hj => exact absurd hj (by simp)
      exact ds_wk (ds_ifF (dt_is (dt_or (dt_not (dt_B (de_isi (d := .int i) (de_var rfl) (b := true) (kitT "int" rfl (by decide +kernel))))) fun _ => dt_B (de_isi (d := .int i) (de_var rfl) (b := false) (kitT "int" rfl (by decide +kernel)))) (by rfl)) ds_next) (.keep (.drop .nil))
    · refine ds_ret (de_is (de_andV (de_gt (de_q1 (q := q) (de_var rfl)) de_int) fun _ => de_eq (de_call (da_cons (de_q0 (q := q) (de_var rfl)) (da_cons (de_q1 (q := q) (de_var rfl)) da_nil)) ⟨_, _, rfl, rfl⟩) de_int sc_int) ?_)
      have e : gc q.1 q.2 = 1 := by
        unfold gc
        rw [h2]
        rfl
      rw [e, decide_eq_true h1, decide_eq_true rfl]
      rfl
def R_is_chance (ds : List PyData) (d : PyData) : Prop := ∃ q : Q2, ds = [qD q] ∧ 0 < q.2 ∧ Int.gcd q.1 q.2 = 1 ∧ 0 ≤ q.1 ∧ q.1 ≤ q.2 ∧ d = .bool true

theorem ok_is_chance (F : FnP K "is_chance" s_is_chance f fd) (T : Txt K mg aZ aO aR) (c_is_ratio : Cal P w K mg base 2 "is_ratio" (spF K R_is_ratio))  : FnOk P w K mg base CX0 3 f fd ["value"] (spF K R_is_chance) := by
  refine fnF F sc_is_chance (fun ds d h => ?_) (fun cdv A outer s H E ds d hr h => ⟨_, (pss_one (ps_ret (pe_and (pe_cal c_is_ratio hr (by rfl) (pa_cons (pv 0) pa_nil)) (pe_one (pe_chain op_le op_le pe_int (pe_ix (r := rIxT K) ix_tup (pv 0) pe_int (fun _ _ => rfl)) (pe_ix (r := rIxT K) ix_tup (pv 0) pe_int (fun _ _ => rfl))))))), ?_⟩)
  · obtain ⟨_, rfl, _⟩ := h
    rfl

  · obtain ⟨q, rfl, h1, h2, h3, h4, rfl⟩ := h
    refine ds_ret (de_is (de_andV (de_call (da_cons (de_var rfl) da_nil) ⟨q, rfl, h1, h2, rfl⟩) fun _ => de_chain (g := fun i j => decide (i ≤ j)) (g' := fun i j => decide (i ≤ j)) de_int (de_q0 (q := q) (de_var rfl)) (de_q1 (q := q) (de_var rfl))) ?_)
    rw [decide_eq_true h3, decide_eq_true h4]
    rfl
def R_total_of (ds : List PyData) (d : PyData) : Prop := ∃ (L : List Q2) (n : Nat), ds = [lD L] ∧ (∀ q ∈ L, Sz n q) ∧ 1 + L.length * (n + 1) ≤ 4000 ∧ d = qD (sumQ L)

theorem ok_total_of (F : FnP K "total_of" s_total_of f fd) (T : Txt K mg aZ aO aR) (c_plus : Cal P w K mg base 3 "plus" (spF K R_plus))  : FnOk P w K mg base CX0 4 f fd ["values"] (spF K R_total_of) := by
  refine fnF F sc_total_of (fun ds d h => ?_) (fun cdv A outer s H E ds d hr h => ⟨_, (pss_cons (ps_set (i := 1) sc_total_of.nd rfl (Or.inl rfl) (pe_glob (v := .ref aZ) (by rfl) T.g_ZERO rfl)) (pss_cons (ps_for PassesOwn.never rfl (pi_tup (pv 0)) (pg_name (i := 2) sc_total_of.nd rfl (Or.inl rfl)) (pss_one (ps_set (i := 1) sc_total_of.nd rfl (Or.inl rfl) (pe_cal c_plus hr (by rfl) (pa_cons (pv 1) (pa_cons (pv 2) pa_nil)))))) (pss_one (ps_ret (pv 1))))), ?_⟩)
  · obtain ⟨_, _, rfl, _⟩ := h
    rfl

  · obtain ⟨L, n, rfl, h1, h2, rfl⟩ := h
    refine ds_seq (ds_set (de_ZERO T)) ?_
    refine ds_seq (ds_forT (ds := L.map qD) (de_var rfl) (fun j => [some (lD L), some (qD (sumQ (L.take j))), none]) (.keep (.keep (.drop .nil))) fun j x hj => ?_) (ds_ret (de_is (de_var rfl) ?_))
    · obtain ⟨q, hq, rfl⟩ : ∃ q, L[j]? = some q ∧ x = qD q := by
        rw [List.getElem?_map] at hj
        cases e : L[j]? with
        | none =>
          rw [e] at hj
          cases hj
        | some q =>
          rw [e] at hj
          exact ⟨q, rfl, (Option.some.inj hj).symm⟩
      have hm : q ∈ L := List.mem_of_getElem? hq
      have hjl : j < L.length := (List.getElem?_eq_some_iff.mp hq).1
      have s1 := sum_sz (l := L.take j) (n := n) fun z hz => h1 z (List.mem_of_mem_take hz)
      have s2 : 1 + (L.take j).length * (n + 1) ≤ 4000 := by
        rw [List.length_take]
        have : min j L.length * (n + 1) ≤ L.length * (n + 1) := Nat.mul_le_mul_right _ (Nat.min_le_right _ _)
        omega
      have s3 : n ≤ 4000 := by
        have : 1 * (n + 1) ≤ L.length * (n + 1) := Nat.mul_le_mul_right _ (by omega)
        omega
      refine ds_wk (ds_set (de_call (da_cons (de_var rfl) (da_cons (de_var rfl) da_nil)) ⟨sumQ (L.take j), q, rfl, s1.mono s2, (h1 q hm).mono s3, trivial, rfl⟩)) ?_
      rw [← sum_take hq]
      exact .keep (.keep (.drop .nil))
    · rw [List.length_map, List.take_length]
end
end Fw
set_option maxHeartbeats 2000000
/-! A list of one's own that grows: one slot holds it, all other data is flat. -/
namespace Fw
open PySem PySem.Spec PyProof.Rows L2
def FlatO : Option PyData → Prop
  | none => True
  | some d => flatD d = true
def FlatA : Rho → Prop
  | [] => True
  | x :: r => FlatO x ∧ FlatA r
/-- all but the i-th -/
def FlatR : Nat → Rho → Prop
  | _, [] => True
  | 0, _ :: r => FlatA r
  | i + 1, x :: r => FlatO x ∧ FlatR i r
theorem FlatA.get : ∀ {ρ : Rho} {j : Nat} {d : PyData}, FlatA ρ → ρ[j]? = some (some d) → flatD d = true
  | [], _, _, _, h => by simp at h
  | x :: r, 0, d, f, h => by
    have e : x = some d := Option.some.inj h
    have g := f.1
    rw [e] at g
    exact g
  | x :: r, j + 1, d, f, h => FlatA.get (ρ := r) (j := j) f.2 h
theorem FlatR.get : ∀ {i : Nat} {ρ : Rho} {j : Nat} {d : PyData}, FlatR i ρ → j ≠ i → ρ[j]? = some (some d) → flatD d = true
  | _, [], _, _, _, _, h => by simp at h
  | 0, x :: r, 0, d, f, n, h => absurd rfl n
  | 0, x :: r, j + 1, d, f, n, h => FlatA.get (ρ := r) (j := j) f h
  | i + 1, x :: r, 0, d, f, n, h => by
    have e : x = some d := Option.some.inj h
    have g := f.1
    rw [e] at g
    exact g
  | i + 1, x :: r, j + 1, d, f, n, h => FlatR.get (i := i) (ρ := r) (j := j) f.2 (fun z => n (congrArg Nat.succ z)) h
theorem FlatA.set : ∀ {ρ : Rho} {j : Nat} {d : PyData}, FlatA ρ → flatD d = true → FlatA (ρ.set j (some d))
  | [], _, _, _, _ => trivial
  | x :: r, 0, d, f, g => ⟨g, f.2⟩
  | x :: r, j + 1, d, f, g => ⟨f.1, FlatA.set f.2 g⟩
theorem FlatR.set : ∀ {i : Nat} {ρ : Rho} {j : Nat} {d : PyData}, FlatR i ρ → flatD d = true → FlatR i (ρ.set j (some d))
  | _, [], _, _, _, _ => by
    rw [List.set_nil]
    trivial
  | 0, x :: r, 0, d, f, g => f
  | 0, x :: r, j + 1, d, f, g => FlatA.set f g
  | i + 1, x :: r, 0, d, f, g => ⟨g, f.2⟩
  | i + 1, x :: r, j + 1, d, f, g => ⟨f.1, FlatR.set f.2 g⟩
theorem FlatR.own : ∀ {i : Nat} {ρ : Rho} {x : Option PyData}, FlatR i ρ → FlatR i (ρ.set i x)
  | _, [], _, _ => by
    rw [List.set_nil]
    trivial
  | 0, x :: r, _, f => f
  | i + 1, x :: r, _, f => ⟨f.1, FlatR.own f.2⟩
structure LOk (K : PySem.W.Frag) (σ : L2.St) (H : Hp) (ρ : Rho) (i : Nat) (o : Addr) : Prop where
  ok : EnvOk K σ H ρ
  sl : σ[i]? = some (some (.ref o))
  ls : ∃ ds acc, ρ[i]? = some (some (.list ds)) ∧ H o = some (.lst acc) ∧ DpAll K H acc ds ∧ flatDs ds = true
  fl : FlatR i ρ
theorem LOk.same {K : PySem.W.Frag} {σ : L2.St} {H H' : Hp} {ρ : Rho} {i : Nat} {o : Addr} (h : LOk K σ H ρ i o) (e : Same H H') : LOk K σ H' ρ i o := by
  obtain ⟨ds, acc, h1, h2, h3, h4⟩ := h.ls
  exact ⟨h.ok.same e, h.sl, ⟨ds, acc, h1, e _ _ h2, dps_same e _ h3, h4⟩, h.fl⟩
theorem LOk.set {K : PySem.W.Frag} {σ : L2.St} {H : Hp} {ρ : Rho} {i j : Nat} {o : Addr} {v : V} {d : PyData} (h : LOk K σ H ρ i o) (hj : j ≠ i) (hv : Dp K H v d) (f : flatD d = true) : LOk K (σ.set j (some v)) H (ρ.set j (some d)) i o := by
  obtain ⟨ds, acc, h1, h2, h3, h4⟩ := h.ls
  exact ⟨h.ok.set j hv, by rw [List.getElem?_set_ne hj]; exact h.sl, ⟨ds, acc, by rw [List.getElem?_set_ne hj]; exact h1, h2, h3, h4⟩, h.fl.set f⟩
theorem LOk.wk {K : PySem.W.Frag} {σ : L2.St} {H : Hp} {ρ ρ' : Rho} {i : Nat} {o : Addr} (h : LOk K σ H ρ i o) (w : Wk ρ' ρ) (e : ρ'[i]? = ρ[i]?) (f : FlatR i ρ') : LOk K σ H ρ' i o := by
  obtain ⟨ds, acc, h1, h2, h3, h4⟩ := h.ls
  exact ⟨h.ok.wk w, h.sl, ⟨ds, acc, e.trans h1, h2, h3, h4⟩, f⟩
/-- a statement from list to list -/
def DL (K : PySem.W.Frag) (i : Nat) (ts : TS) (ρ ρ' : Rho) : Prop := ∀ (D : Ends) (σ : L2.St) (H H0 : Hp) (o : Addr), H0 o = none → Same H0 H → LOk K σ H ρ i o → (∀ σ' H', Same H0 H' → LOk K σ' H' ρ' i o → D.nx σ' H') → ts D σ H
/-- the list is made -/
def DLX (K : PySem.W.Frag) (i : Nat) (ts : TS) (ρ ρ' : Rho) : Prop := ∀ (D : Ends) (σ : L2.St) (H : Hp), EnvOk K σ H ρ → (∀ σ' H' o, H o = none → Same H H' → LOk K σ' H' ρ' i o → D.nx σ' H') → ts D σ H
/-- a new list -/
def DEL (K : PySem.W.Frag) (te : TE) (ρ : Rho) (ds : List PyData) : Prop := ∀ (σ : L2.St) (H : Hp), EnvOk K σ H ρ → ∀ Q : VK, (∀ o acc H', H o = none → Same H H' → H' o = some (.lst acc) → DpAll K H' acc ds → Q (.ref o) H') → te σ H Q
section
variable {K : PySem.W.Frag} {i j : Nat} {t u : TS} {tt : TT} {te : TE} {ta : TA} {ρ ρ1 ρ2 : Rho} {d e : PyData} {ds : List PyData} {b : Bool}
theorem dl_next : DL K i tNext ρ ρ := fun D σ H H0 o hn s h q => q σ H s h
theorem dl_seq (h1 : DL K i t ρ ρ1) (h2 : DL K i u ρ1 ρ2) : DL K i (tSeq t u) ρ ρ2 := fun D σ H H0 o hn s h q => h1 { D with nx := u D } σ H H0 o hn s h fun σ' H' s' h' => h2 D σ' H' H0 o hn s' h' q
theorem dl_wk (h : DL K i t ρ ρ1) (w : Wk ρ2 ρ1) (e : ρ2[i]? = ρ1[i]?) (f : FlatR i ρ2) : DL K i t ρ ρ2 := fun D σ H H0 o hn s hl q => h D σ H H0 o hn s hl fun σ' H' s' h' => q σ' H' s' (h'.wk w e f)
theorem dl_set (h : DE K te ρ d) (hj : j ≠ i) (f : flatD d = true) : DL K i (tAsg te (gName j)) ρ (ρ.set j (some d)) := fun D σ H H0 o hn s hl q => h σ H hl.ok _ fun v H1 e1 hv => q _ H1 (s.trans e1) ((hl.same e1).set hj hv f)
theorem dl_par {k : Nat} (h : DA K ta ρ [d, e]) (hj : j ≠ i) (hk : k ≠ i) (f : flatD d = true) (g : flatD e = true) : DL K i (tPar j k ta) ρ ((ρ.set j (some d)).set k (some e)) := fun D σ H H0 o hn s hl q => h σ H hl.ok _ fun vs H1 e1 hv => by
  cases hv with
  | cons h1 h2 =>
    cases h2 with
    | cons h2 h3 =>
      cases h3
      exact ⟨_, _, rfl, q _ H1 (s.trans e1) (((hl.same e1).set hj h1 f).set hk h2 g)⟩
theorem dl_if (h : DT K tt ρ b) (h1 : b = true → DL K i t ρ ρ1) (h2 : b = false → DL K i u ρ ρ1) : DL K i (tIfS tt t u) ρ ρ1 := fun D σ H H0 o hn s hl q => h σ H hl.ok _ fun H1 e1 => by
  cases b with
  | true =>
    show t D σ H1
    exact h1 rfl D σ H1 H0 o hn (s.trans e1) (hl.same e1) q
  | false =>
    show u D σ H1
    exact h2 rfl D σ H1 H0 o hn (s.trans e1) (hl.same e1) q
/-- list.append -/
theorem dl_app (h : DE K te ρ d) (f : flatD d = true) (hi : ρ[i]? = some (some (.list ds))) (hl : ds.length < 100000) : DL K i (tDrop (tBM K "list" rAppend (tVar i) (tCons te tNil))) ρ (ρ.set i (some (.list (ds ++ [d])))) := fun D σ H H0 o hn s lo q => by
  refine ⟨.ref o, lo.sl, ?_⟩
  obtain ⟨ds', acc, h1, h2, h3, h4⟩ := lo.ls
  obtain rfl : ds' = ds := by
    rw [hi] at h1
    cases h1
    rfl
  refine ⟨.inl ⟨rfl, _, SqL.of h2⟩, h σ H lo.ok _ fun v H1 e1 hv => ?_⟩
  have k2 := e1 _ _ h2
  have k3 := dps_same e1 _ h3
  refine ⟨o, acc, v, rfl, rfl, k2, Nat.lt_of_lt_of_le (by rw [dps_len h3]; exact hl) (by decide), q _ _ (same_mut (s.trans e1) hn) ?_⟩
  have okm : EnvOk K σ (upd H1 o (.lst (acc ++ [v]))) (ρ.set i (some (.list (ds' ++ [d])))) := by
    refine ⟨by rw [List.length_set]; exact lo.ok.len, fun j x hx => ?_⟩
    by_cases hj : i = j
    · subst hj
      have hil : i < ρ.length := (List.getElem?_eq_some_iff.mp hi).1
      rw [List.getElem?_set_self hil] at hx
      cases hx
      exact ⟨.ref o, lo.sl, .lst (SqL.of upd_same) (dps_app (dps_mut k2 _ h4 k3) (.cons (dp_mut k2 _ f hv) .nil))⟩
    · rw [List.getElem?_set_ne hj] at hx
      obtain ⟨w, w1, w2⟩ := lo.ok.at_ j x hx
      exact ⟨w, w1, dp_mut k2 _ (lo.fl.get (fun z => hj z.symm) hx) (dp_same e1 _ w2)⟩
  refine ⟨okm, lo.sl, ⟨ds' ++ [d], acc ++ [v], ?_, upd_same, dps_app (dps_mut k2 _ h4 k3) (.cons (dp_mut k2 _ f hv) .nil), ?_⟩, lo.fl.own⟩
  · rw [List.getElem?_set_self (List.getElem?_eq_some_iff.mp hi).1]
  · have flat_app : ∀ (xs ys : List PyData), flatDs xs = true → flatDs ys = true → flatDs (xs ++ ys) = true := by
      intro xs
      induction xs with
      | nil => intro ys _ h; exact h
      | cons x xs ih =>
        intro ys h1 h2
        rw [flatDs, Bool.and_eq_true] at h1
        rw [List.cons_append, flatDs, Bool.and_eq_true]
        exact ⟨h1.1, ih ys h1.2 h2⟩
    exact flat_app _ _ h4 (by rw [flatDs, flatDs, Bool.and_true]; exact f)
theorem dl_for {wi : TI} {lo : Int} {n k : Nat} (hw : DW K wi ρ lo n) (hk : k ≠ i) (F : Nat → Rho) (h0 : Wk (F 0) ρ) (e0 : (F 0)[i]? = ρ[i]?) (f0 : FlatR i (F 0))
    (hs : ∀ j, j < n → DL K i u ((F j).set k (some (.int (lo + (j : Nat))))) (F (j + 1))) : DL K i (tFor wi (gName k) u) ρ (F n) := fun D σ H H0 o hn s hl q => hw σ H hl.ok _ fun H1 e1 =>
  for_range (fun j σ' H' => Same H0 H' ∧ LOk K σ' H' (F j) i o) ⟨s.trans e1, (hl.same e1).wk h0 e0 f0⟩
    (fun j σ' H' hj ⟨s', ok⟩ => hs j hj _ _ _ H0 o hn s' (ok.set hk (.int _) rfl) fun σ2 H2 s2 ok2 => ⟨s2, ok2⟩)
    (fun σ' H' ⟨s', ok⟩ => q σ' H' s' ok)
theorem dlx_seq (h1 : DLX K i t ρ ρ1) (h2 : DL K i u ρ1 ρ2) : DLX K i (tSeq t u) ρ ρ2 := fun D σ H ok q => h1 { D with nx := u D } σ H ok fun σ' H' o hn s h' => h2 D σ' H' H o hn s h' fun σ2 H2 s2 hl2 => q σ2 H2 o hn s2 hl2
theorem fresh_back {H H' : Hp} {p : Addr} (e : Same H H') (h : H' p = none) : H p = none := e.free h
theorem dlx_pre (h1 : DS K t ρ (.nx ρ1)) (h2 : DLX K i u ρ1 ρ2) : DLX K i (tSeq t u) ρ ρ2 := fun D σ H ok q => h1 { D with nx := u D } σ H ok fun σ' H' s ok' => h2 D σ' H' ok' fun σ2 H2 o hn s2 hl2 => q σ2 H2 o (fresh_back s hn) (s.trans s2) hl2
theorem dlx_if (h : DT K tt ρ b) (h1 : b = true → DLX K i t ρ ρ1) (h2 : b = false → DLX K i u ρ ρ1) : DLX K i (tIfS tt t u) ρ ρ1 := fun D σ H ok q => h σ H ok _ fun H1 e1 => by
  cases b with
  | true =>
    show t D σ H1
    exact h1 rfl D σ H1 (ok.same e1) fun σ2 H2 o hn s2 hl2 => q σ2 H2 o (fresh_back e1 hn) (e1.trans s2) hl2
  | false =>
    show u D σ H1
    exact h2 rfl D σ H1 (ok.same e1) fun σ2 H2 o hn s2 hl2 => q σ2 H2 o (fresh_back e1 hn) (e1.trans s2) hl2
theorem dlx_set (h : DEL K te ρ ds) (hi : Nat.blt i ρ.length = true) (f : flatDs ds = true) (w : Wk ρ1 (ρ.set i (some (.list ds)))) (e : ρ1[i]? = some (some (.list ds))) (g : FlatR i ρ1) : DLX K i (tAsg te (gName i)) ρ ρ1 := fun D σ H ok q => h σ H ok _ fun o acc H' hn s h1 h2 => by
  refine q _ H' o hn s ⟨((ok.same s).set i (.lst (SqL.of h1) h2)).wk w, ?_, ⟨ds, acc, e, h1, h2, f⟩, g⟩
  rw [List.getElem?_set_self (by rw [ok.len]; exact Nat.le_of_ble_eq_true hi)]
/-- the end: what is handed back is told by the list's data -/
theorem dlx_ret (h : DLX K i t ρ ρ1) (h2 : ∀ (σ : L2.St) (H : Hp) (o : Addr), LOk K σ H ρ1 i o → ∀ Q : VK, (∀ v H', Same H H' → Dp K H' v d → Q v H') → te σ H Q) : DS K (tSeq t (tRet te)) ρ (.rt d) := fun D σ H ok q =>
  h { D with nx := tRet te D } σ H ok fun σ' H' o hn s hl => h2 σ' H' o hl _ fun v H2 s2 hv => q v H2 (s.trans s2) hv
theorem del_nil : DEL K (tLst tNil) ρ [] := fun σ H ok Q q => ⟨Nat.zero_le _, fun p hp => q p [] _ hp (same_new hp) upd_same .nil⟩
theorem del_lcR {wi : TI} {lo : Int} {n k : Nat} (hw : DW K wi ρ lo n) (hn : n ≤ 100000) (f : Nat → Bool) (r : Nat → PyData) (hf : ∀ j, j < n → DT K tt (ρ.set k (some (.int (lo + (j : Nat))))) (f j))
    (hr : ∀ j, j < n → f j = true → DE K te (ρ.set k (some (.int (lo + (j : Nat))))) (r j)) (hfl : ∀ j, j < n → f j = true → flatD (r j) = true) : DEL K (tLc wi (gName k) tt te [k]) ρ (((List.range n).filter f).map r) := fun σ H e Q q => hw σ H e _ fun H1 e1 => fun L hL => by
  refine lc_range (fun j H' => Same H1 H' ∧ ∃ acc, H' L = some (.lst acc) ∧ DpAll K H' acc (((List.range j).filter f).map r)) ⟨same_new hL, [], upd_same, .nil⟩ (fun j H' hj ⟨s, ha⟩ => ?_) (fun H' ⟨s, acc, h1, h2⟩ => ?_)
  · exact lc_turn hL (e.same e1) s (.int _) hj hn ha (hf j hj) (hr j hj) (fun i hi => hfl i (by omega)) fun H2 s2 a2 => ⟨s2, a2⟩
  · exact q L acc H' (fresh_back e1 hL) (e1.trans s) h1 h2
/-- (xs + [None])[0] -/
theorem le_head {σ : L2.St} {H : Hp} {o : Addr} (hl : LOk K σ H ρ i o) (hi : ρ[i]? = some (some (.list ds))) (hn : ds.length ≤ 1000) : ∀ Q : VK, (∀ v H', Same H H' → Dp K H' v (ds.headD .none) → Q v H') → tOp (rIxL K) (tOp rCat (tVar i) (tLst (tCons (tC .non) tNil))) (tC (.int 0)) σ H Q := fun Q q => by
  obtain ⟨ds', acc, h1, h2, h3, h4⟩ := hl.ls
  obtain rfl : ds' = ds := by
    rw [hi] at h1
    cases h1
    rfl
  refine ⟨.ref o, hl.sl, (by show 1 ≤ sizeLine; decide), fun p hp => ?_⟩
  have s1 : Same H (upd H p (.lst [.non])) := same_new hp
  refine ⟨o, p, acc, [.non], rfl, rfl, s1 _ _ h2, upd_same, ?_, fun p2 hp2 => ?_⟩
  · show acc.length + 1 ≤ sizeLine
    have := dps_len h3
    exact Nat.le_trans (show acc.length + 1 ≤ 1001 by omega) (by decide)
  have s2 : Same (upd H p (.lst [.non])) (upd (upd H p (.lst [.non])) p2 (.lst (acc ++ [.non]))) := same_new hp2
  have hA : DpAll K (upd (upd H p (.lst [.non])) p2 (.lst (acc ++ [.non]))) (acc ++ [.non]) (ds' ++ [.none]) := dps_app (dps_same (s1.trans s2) _ h3) (.cons .non .nil)
  have hg : (ds' ++ [PyData.none])[0]? = some (ds'.headD .none) := by
    cases ds' <;> rfl
  obtain ⟨v, v1, v2⟩ := dps_get hA hg
  exact ⟨p2, _, 0, v, rfl, rfl, SqL.of upd_same, atI_nat (j := 0) v1, q v _ (s1.trans s2) v2⟩
theorem ds_reassoc {w : TS} {o : Out} (h : DS K (tSeq (tSeq t u) w) ρ o) : DS K (tSeq t (tSeq u w)) ρ o := h
end
end Fw
set_option maxHeartbeats 4000000
namespace Fw
open PySem PySem.Spec PyProof.Rows L2
section
variable {P : Program} {w : World} {K : PySem.W.Frag} {mg : Str → Option Value} {base : Heap} {aZ aO aR f : Addr} {fd : FuncData}

def R_is_life (ds : List PyData) (d : PyData) : Prop := ∃ L : List Q2, ds = [lD L] ∧ Lf 100 L ∧ d = .bool true

theorem ok_is_life (F : FnP K "is_life" s_is_life f fd) (T : Txt K mg aZ aO aR) (c_is_below_numbers : Cal P w K mg base 1 "is_below_numbers" (spF K R_is_below_numbers)) (c_is_chance : Cal P w K mg base 3 "is_chance" (spF K R_is_chance))  : FnOk P w K mg base CX0 4 f fd ["value"] (spF K R_is_life) := by
  refine fnF F sc_is_life (fun ds d h => ?_) (fun cdv A outer s H E ds d hr h => ⟨_, (pss_cons (ps_if (PW.pt (pw_or (pt_not (pt_val (pe_callB call_isi (by rfl) T.isinstance (by decide +kernel) (pa_cons (pv 0) (pa_cons (pe_bltn (v := .ty "tuple") (u := .type "tuple") (by rfl) T.tuple (by decide +kernel) rfl) pa_nil))))) (pw_or1 (pt_not (pt_chain op_le op_le pe_int (pe_callB call_len_seq (by rfl) T.len (by decide +kernel) (pa_cons (pv 0) pa_nil)) (pe_most (by rfl) T.g_most)))))) (pss_one (ps_ret pe_bl)) pss_nil) (pss_cons (ps_if (PW.pt (pw_or (pt_cmpR (op_neD hr.units) (pe_lc (own := [("one", 2)]) (g := gName 2) rfl sc_is_life.nd (pi_tup (pv 0)) (blkOk_by (N := N_is_life) (sc := defScope s_is_life) (by decide +kernel)) (fun _ _ _ _ _ => pg_name (i := 2) sc_is_life.nd rfl (Or.inl rfl)) (fun _ _ _ _ _ => (pts_one (pt_not (pt_val (pe_cal c_is_chance hr (by rfl) (pa_cons (pv 2) pa_nil)))))) (fun _ _ _ _ _ => (pv 2))) (pe_lst pa_nil) (nomark _)) (pw_or (pt_cmpR (op_neD hr.units) (pe_ix (r := rIxT K) ix_tup (pv 0) pe_int (fun _ _ => rfl)) (pe_glob (v := .ref aO) (by rfl) T.g_ONE rfl) (nomark _)) (pw_or1 (pt_cmpR (op_neD hr.units) (pe_ix (r := rIxT K) ix_tup (pv 0) (pe_un un_neg pe_int) (fun _ _ => rfl)) (pe_glob (v := .ref aZ) (by rfl) T.g_ZERO rfl) (nomark _)))))) (pss_one (ps_ret pe_bl)) pss_nil) (pss_cons (ps_if (pt_cmpR (op_inT (u65 hr)) (pe_glob (v := .ref aZ) (by rfl) T.g_ZERO rfl) (pe_slice (r := rSlA K) sl_tupA (pv 0) po_none (po_some (pe_un un_neg pe_int))) (by with_unfolding_all rfl)) (pss_one (ps_ret pe_bl)) pss_nil) (pss_one (ps_ret (pe_cmpR (op_eqD hr.units) (pe_lc (own := [("t", 1)]) (g := gName 1) rfl sc_is_life.nd (pi_range2 (by rfl) T.range (pa_cons pe_int (pa_cons (pe_callB call_len_seq (by rfl) T.len (by decide +kernel) (pa_cons (pv 0) pa_nil)) pa_nil))) (blkOk_by (N := N_is_life) (sc := defScope s_is_life) (by decide +kernel)) (fun _ _ _ _ _ => pg_name (i := 1) sc_is_life.nd rfl (Or.inl rfl)) (fun _ _ _ _ _ => (pts_one (pt_val (pe_cal c_is_below_numbers hr (by rfl) (pa_cons (pe_ix (r := rIxT K) ix_tup (pv 0) (pe_op op_sub (pv 1) pe_int) (fun _ _ => rfl)) (pa_cons (pe_ix (r := rIxT K) ix_tup (pv 0) (pv 1) (fun _ _ => rfl)) pa_nil)))))) (fun _ _ _ _ _ => (pv 1))) (pe_lst pa_nil) (nomark _))))))), ?_⟩)
  · obtain ⟨_, rfl, _⟩ := h
    rfl

  · obtain ⟨L, rfl, hL, rfl⟩ := h
    have l2 := hL.life.len2
    have l13 := hL.life.len13
    refine ds_seq (ds_ifF (dt_is (dt_or (dt_not (dt_B (de_isi (d := lD L) (de_var rfl) (b := true) (kitT "tuple" rfl (by decide +kernel))))) fun _ => dt_not (dt_test (de_chain (g := fun i j => decide (i ≤ j)) (g' := fun i j => decide (i ≤ j)) de_int (de_llen (L := L) (de_var rfl)) de_int))) ?_) ds_next) ?_
    · rw [decide_eq_true (show (2 : Int) ≤ (L.length : Nat) by omega), decide_eq_true (show ((L.length : Nat) : Int) ≤ 13 by omega)]
      rfl
    refine ds_seq (ds_ifF (dt_is (dt_or (dt_test (de_neD (b := true) (de_is (de_lcT (ds := L.map qD) (de_var rfl) (by rw [List.length_map]; omega) (fun _ => false) (fun _ => .none) (fun j x hj => ?_) (fun j x _ z => Bool.noConfusion z) (fun j _ z => Bool.noConfusion z)) (by rw [filt_none (fun _ _ => rfl)]; rfl)) (de_lst da_nil (Nat.zero_le _)) (shaped_flat (ds := []) rfl) (shaped_flat (ds := []) rfl) (eqv_nil _)))
      fun _ => dt_or (dt_test (de_neD (b := true) (de_li (L := L) (n := 0) (de_var rfl) de_int rfl (by omega)) (de_ONE T) (shaped_q _) (shaped_q _) (by rw [eqv_q, hL.life.hd]; rfl)))
      fun _ => dt_test (de_neD (b := true) (de_llast (L := L) (de_var rfl) (by omega)) (de_ZERO T) (shaped_q _) (shaped_q _) (by rw [eqv_q, hL.life.tl]; rfl))) (by rfl)) ds_next) ?_
    · obtain ⟨h1, rfl⟩ := l_item hj
      refine dt_is (dt_not (dt_B (de_call (da_cons (de_var rfl) da_nil) ⟨it L j, rfl, hL.life.dp j h1, hL.life.cn j h1, hL.life.nn j, hL.life.le_one h1, rfl⟩))) rfl
    refine ds_seq (ds_ifF (dt_test (de_inT (b := false) (de_ZERO T) (de_linit (L := L) (de_var rfl) (de_neg de_int) (by omega)) (shaped_q _) (shaped_l _) ?_)) ds_next) ?_
    · rw [List.any_map, List.any_eq_false]
      intro q hq
      obtain ⟨i, hi, rfl⟩ : ∃ i, i + 1 < L.length ∧ it L i = q := by
        obtain ⟨i, hi, e⟩ := List.mem_iff_getElem.mp hq
        rw [List.length_take] at hi
        rw [List.getElem_take] at e
        refine ⟨i, by omega, it_of ?_⟩
        rw [List.getElem?_eq_getElem (by omega), e]
      show ¬ PyData.eqv (qD (it L i)) (qD (0, 1)) = true
      have h3 := hL.life.np i hi
      rw [eqv_q, decide_eq_false (fun z => by rw [z] at h3; exact absurd h3 (by decide))]
      exact Bool.false_ne_true
    refine ds_ret (de_eqD (b := true) (de_is (de_lcR (n := L.length - 1) (dw_r2 (da_cons de_int (da_cons (de_llen (L := L) (de_var rfl)) da_nil)) (by decide) (by decide) (by omega) (by omega) (by omega)) (by omega) (fun _ => false) (fun _ => .none) (fun j hj => ?_) (fun j _ z => Bool.noConfusion z) (fun j _ z => Bool.noConfusion z)) (by rw [filt_none (fun _ _ => rfl)]; rfl)) (de_lst da_nil (Nat.zero_le _)) (shaped_flat (ds := []) rfl) (shaped_flat (ds := []) rfl) (eqv_nil _))
    refine dt_B (de_is (de_call (da_cons (de_li (L := L) (n := j) (de_var rfl) (de_sub (de_var rfl) de_int) (by omega) (by omega)) (da_cons (de_li (L := L) (n := j + 1) (de_var rfl) (de_var rfl) (by omega) (by omega)) da_nil)) ⟨_, _, rfl, (hL.at_ (by omega)).mono (by decide), (hL.at_ (by omega)).mono (by decide), rfl⟩) ?_)
    rw [hL.life.dn j (by omega)]
/-- no exception, no return: need_life -/
def R_need_life (ds : List PyData) (d : PyData) : Prop := ∃ L : List Q2, ds = [lD L] ∧ Lf 100 L ∧ d = .none
theorem ok_need_life (F : FnP K "need_life" s_need_life f fd) (T : Txt K mg aZ aO aR) (c_is_life : Cal P w K mg base 4 "is_life" (spF K R_is_life)) : FnOk P w K mg base CX0 5 f fd ["life"] (spF K R_need_life) := by
  refine fnN F sc_need_life (fun ds d ⟨_, h, _⟩ => ?_) (fun ds d ⟨_, _, _, h⟩ => h) (fun cdv A outer s H E ds d hr h => ⟨_, (pss_one (ps_if (pt_not (pt_val (pe_cal c_is_life hr (by rfl) (pa_cons (pv 0) pa_nil)))) (pss_one ps_never) pss_nil)), ?_⟩)
  · rw [h]
    rfl
  · obtain ⟨L, rfl, hL, rfl⟩ := h
    exact ⟨_, ds_ifF (dt_is (dt_not (dt_B (de_call (da_cons (de_var rfl) da_nil) ⟨L, rfl, hL, rfl⟩))) rfl) ds_next⟩
def R_mean_life (ds : List PyData) (d : PyData) : Prop := ∃ L : List Q2, ds = [lD L] ∧ Lf 100 L ∧ d = qD (sumQ L)

theorem ok_mean_life (F : FnP K "mean_life" s_mean_life f fd) (T : Txt K mg aZ aO aR) (c_need_life : Cal P w K mg base 5 "need_life" (spF K R_need_life)) (c_total_of : Cal P w K mg base 4 "total_of" (spF K R_total_of))  : FnOk P w K mg base CX0 6 f fd ["life"] (spF K R_mean_life) := by
  refine fnF F sc_mean_life (fun ds d h => ?_) (fun cdv A outer s H E ds d hr h => ⟨_, (pss_cons (ps_expr (pe_cal c_need_life hr (by rfl) (pa_cons (pv 0) pa_nil))) (pss_one (ps_ret (pe_cal c_total_of hr (by rfl) (pa_cons (pv 0) pa_nil))))), ?_⟩)
  · obtain ⟨_, rfl, _⟩ := h
    rfl

  · obtain ⟨L, rfl, hL, rfl⟩ := h
    have l13 := hL.life.len13
    refine ds_seq (ds_drop (de_call (da_cons (de_var rfl) da_nil) ⟨L, rfl, hL, rfl⟩)) (ds_ret (de_call (da_cons (de_var rfl) da_nil) ⟨L, 100, rfl, hL.sz, ?_, rfl⟩))
    omega
def ratesD (L : List Q2) : PyData := .list ((List.range (L.length - 1)).map fun t => qD (rate L t))
theorem Lf.div_sz {L : List Q2} (h : Lf 50 L) {i t : Nat} (hi : i < L.length) (e : t + 1 < L.length) : Sz 100 (divQ (it L i) (it L t)) := Sz.div (h.at_ hi) (h.at_ (by omega)) (h.life.np t e)
theorem Lf.rate_sz {L : List Q2} (h : Lf 50 L) {t : Nat} (e : t + 1 < L.length) : Sz 102 (rate L t) := (Sz.sub sz_one (h.div_sz (i := t + 1) (t := t) e e)).mono (by decide)
def R_rates_of (ds : List PyData) (d : PyData) : Prop := ∃ L : List Q2, ds = [lD L] ∧ Lf 50 L ∧ d = ratesD L

theorem ok_rates_of (F : FnP K "rates_of" s_rates_of f fd) (T : Txt K mg aZ aO aR) (c_minus : Cal P w K mg base 3 "minus" (spF K R_minus)) (c_over : Cal P w K mg base 3 "over" (spF K R_over))  : FnOk P w K mg base CX0 4 f fd ["life"] (spF K R_rates_of) := by
  refine fnF F sc_rates_of (fun ds d h => ?_) (fun cdv A outer s H E ds d hr h => ⟨_, (pss_one (ps_ret (pe_lc (own := [("t", 1)]) (g := gName 1) rfl sc_rates_of.nd (pi_range1 (by rfl) T.range (pa_cons (pe_op op_sub (pe_callB call_len_seq (by rfl) T.len (by decide +kernel) (pa_cons (pv 0) pa_nil)) pe_int) pa_nil)) (blkOk_by (N := N_rates_of) (sc := defScope s_rates_of) (by decide +kernel)) (fun _ _ _ _ _ => pg_name (i := 1) sc_rates_of.nd rfl (Or.inl rfl)) (fun _ _ _ _ _ => pts_nil) (fun _ _ _ _ _ => (pe_cal c_minus hr (by rfl) (pa_cons (pe_glob (v := .ref aO) (by rfl) T.g_ONE rfl) (pa_cons (pe_cal c_over hr (by rfl) (pa_cons (pe_ix (r := rIxT K) ix_tup (pv 0) (pe_op op_add (pv 1) pe_int) (fun _ _ => rfl)) (pa_cons (pe_ix (r := rIxT K) ix_tup (pv 0) (pv 1) (fun _ _ => rfl)) pa_nil))) pa_nil))))))), ?_⟩)
  · obtain ⟨_, rfl, _⟩ := h
    rfl

  · obtain ⟨L, rfl, hL, rfl⟩ := h
    have l2 := hL.life.len2
    have l13 := hL.life.len13
    refine ds_ret (de_lcR1 (n := L.length - 1) (dw_r1 (da_cons (i_is (de_sub (de_llen (L := L) (de_var rfl)) de_int) (by omega)) da_nil) (by omega)) (by omega) _ (fun j hj => ?_) (fun j hj => flat_q _))
    refine de_call (da_cons (de_ONE T) (da_cons (de_call (da_cons (de_li (L := L) (n := j + 1) (de_var rfl) (de_add (de_var rfl) de_int) (by omega) (by omega)) (da_cons (de_li (L := L) (n := j) (de_var rfl) (de_var rfl) (by omega) (by omega)) da_nil)) ⟨_, _, rfl, (hL.at_ (by omega)).mono (by decide), (hL.at_ (by omega)).mono (by decide), hL.life.np j (by omega), rfl⟩) da_nil)) ⟨_, _, rfl, sz_one.mono (by decide), (hL.div_sz (by omega) (by omega)).mono (by decide), trivial, rfl⟩
def R_older (ds : List PyData) (d : PyData) : Prop := ∃ (L : List Q2) (t : Nat), ds = [lD L, .int (t : Nat)] ∧ Lf 50 L ∧ t + 1 < L.length ∧ d = lD (left L t)

theorem ok_older (F : FnP K "older" s_older f fd) (T : Txt K mg aZ aO aR) (c_need_life : Cal P w K mg base 5 "need_life" (spF K R_need_life)) (c_is_in : Cal P w K mg base 1 "is_in" (spF K R_is_in)) (c_over : Cal P w K mg base 3 "over" (spF K R_over))  : FnOk P w K mg base CX0 6 f fd ["life", "t"] (spF K R_older) := by
  refine fnF F sc_older (fun ds d h => ?_) (fun cdv A outer s H E ds d hr h => ⟨_, (pss_cons (ps_expr (pe_cal c_need_life hr (by rfl) (pa_cons (pv 0) pa_nil))) (pss_cons (ps_if (pt_not (pt_val (pe_cal c_is_in hr (by rfl) (pa_cons (pv 1) (pa_cons pe_int (pa_cons (pe_op op_sub (pe_callB call_len_seq (by rfl) T.len (by decide +kernel) (pa_cons (pv 0) pa_nil)) pe_int) pa_nil)))))) (pss_one ps_never) pss_nil) (pss_one (ps_ret (pe_callTy call_tuple_of (by rfl) T.tuple (by decide +kernel) (pa_cons (pe_lc (own := [("one", 2)]) (g := gName 2) rfl sc_older.nd (pi_tup (pe_slice (r := rSlA K) sl_tupA (pv 0) (po_some (pv 1)) po_none)) (blkOk_by (N := N_older) (sc := defScope s_older) (by decide +kernel)) (fun _ _ _ _ _ => pg_name (i := 2) sc_older.nd rfl (Or.inl rfl)) (fun _ _ _ _ _ => pts_nil) (fun _ _ _ _ _ => (pe_cal c_over hr (by rfl) (pa_cons (pv 2) (pa_cons (pe_ix (r := rIxT K) ix_tup (pv 0) (pv 1) (fun _ _ => rfl)) pa_nil))))) pa_nil)))))), ?_⟩)
  · obtain ⟨_, _, rfl, _⟩ := h
    rfl

  · obtain ⟨L, t, rfl, hL, ht, rfl⟩ := h
    have l2 := hL.life.len2
    have l13 := hL.life.len13
    refine ds_seq (ds_drop (de_call (da_cons (de_var rfl) da_nil) ⟨L, rfl, hL.mono (by decide), rfl⟩)) ?_
    refine ds_seq (ds_ifF (dt_is (dt_not (dt_B (de_call (da_cons (de_var rfl) (da_cons de_int (da_cons (de_sub (de_llen (L := L) (de_var rfl)) de_int) da_nil))) ⟨_, _, _, rfl, rfl⟩))) ?_) ds_next) ?_
    · rw [decide_eq_true (show (0 : Int) ≤ (t : Nat) by omega), decide_eq_true (show ((t : Nat) : Int) ≤ ((L.length : Nat) : Int) - 2 by omega)]
      rfl
    refine ds_ret (de_is (de_tupleL (de_lcL1 (L := L.drop t) (de_ldrop (L := L) (de_var rfl) (de_var rfl) (by omega)) (by rw [List.length_drop]; omega) (fun j => qD (divQ (it (L.drop t) j) (it L t))) (fun j hj => ?_) (fun j hj => flat_q _))) ?_)
    · have hj2 : j < L.length - t := by rw [List.length_drop] at hj; exact hj
      have e : it (L.drop t) j = it L (t + j) := it_of (by rw [List.getElem?_drop]; exact it_get (by omega))
      rw [e]
      exact de_call (da_cons (de_var rfl) (da_cons (de_li (L := L) (n := t) (de_var rfl) (de_var rfl) rfl (by omega)) da_nil)) ⟨_, _, rfl, (hL.at_ (by omega)).mono (by decide), (hL.at_ (by omega)).mono (by decide), hL.life.np t ht, rfl⟩
    · rw [left_range]
      rfl
def R_item (ds : List PyData) (d : PyData) : Prop := ∃ (L : List Q2) (t : Nat), ds = [lD L, .int (t : Nat)] ∧ d = qD (it L t)

theorem ok_item (F : FnP K "item" s_item f fd) (T : Txt K mg aZ aO aR)   : FnOk P w K mg base CX0 1 f fd ["life", "t"] (spF K R_item) := by
  refine fnF F sc_item (fun ds d h => ?_) (fun cdv A outer s H E ds d hr h => ⟨_, (pss_one (ps_ret (pe_ifExp (pt_cmpR op_lt (pv 1) (pe_callB call_len_seq (by rfl) T.len (by decide +kernel) (pa_cons (pv 0) pa_nil)) (nomark _)) (pe_ix (r := rIxT K) ix_tup (pv 0) (pv 1) (fun _ _ => rfl)) (pe_glob (v := .ref aZ) (by rfl) T.g_ZERO rfl)))), ?_⟩)
  · obtain ⟨_, _, rfl, _⟩ := h
    rfl

  · obtain ⟨L, t, rfl, rfl⟩ := h
    refine ds_ret (de_if (dt_test (de_lt (de_var rfl) (de_llen (L := L) (de_var rfl)))) (fun e => ?_) (fun e => ?_))
    · have h1 := of_decide_eq_true e
      exact de_li (L := L) (n := t) (de_var rfl) (de_var rfl) rfl (by omega)
    · have h1 := of_decide_eq_false e
      refine de_is (de_ZERO T) ?_
      rw [it_out (by omega)]
def R_power (ds : List PyData) (d : PyData) : Prop := ∃ (b : Q2) (n k : Nat), ds = [qD b, .int (k : Nat)] ∧ Sz n b ∧ n * k + 1 ≤ 4000 ∧ n ≤ 4000 ∧ k ≤ 100 ∧ d = qD (powQ b k)

theorem ok_power (F : FnP K "power" s_power f fd) (T : Txt K mg aZ aO aR) (c_times : Cal P w K mg base 3 "times" (spF K R_times))  : FnOk P w K mg base CX0 4 f fd ["base", "exponent"] (spF K R_power) := by
  refine fnF F sc_power (fun ds d h => ?_) (fun cdv A outer s H E ds d hr h => ⟨_, (pss_cons (ps_set (i := 2) sc_power.nd rfl (Or.inl rfl) (pe_tup (pa_cons pe_int (pa_cons pe_int pa_nil)))) (pss_cons (ps_for PassesOwn.never rfl (pi_range1 (by rfl) T.range (pa_cons (pv 1) pa_nil)) (pg_name (i := 3) sc_power.nd rfl (Or.inl rfl)) (pss_one (ps_set (i := 2) sc_power.nd rfl (Or.inl rfl) (pe_cal c_times hr (by rfl) (pa_cons (pv 2) (pa_cons (pv 0) pa_nil)))))) (pss_one (ps_ret (pv 2))))), ?_⟩)
  · obtain ⟨_, _, _, rfl, _⟩ := h
    rfl

  · obtain ⟨b, n, k, rfl, hb, h1, h2, h3, rfl⟩ := h
    refine ds_seq (ds_set (d := qD (1, 1)) (de_tup (da_cons de_int (da_cons de_int da_nil)) (by show 2 ≤ 100000; decide))) ?_
    refine ds_seq (ds_forAll (n := k) (dw_r1 (da_cons (de_var rfl) da_nil) (by omega)) (fun j => [some (qD b), some (.int (k : Nat)), some (qD (powQ b j)), none]) (.keep (.keep (.keep (.drop .nil)))) (fun j hj => ?_)) (ds_ret (de_var rfl))
    have s1 : n * j + 1 ≤ 4000 := by
      have : n * j ≤ n * k := Nat.mul_le_mul_left _ (by omega)
      omega
    exact ds_wk (ds_set (de_call (da_cons (de_var rfl) (da_cons (de_var rfl) da_nil)) ⟨powQ b j, b, rfl, (hb.pow j).mono s1, hb.mono h2, trivial, rfl⟩)) (.keep (.keep (.keep (.drop .nil))))
def fallF (L : List Q2) (t : Nat) : Bool := ltQ (rate L (t + 1)) (rate L t)
def headD (l : List Nat) : PyData := match l with
  | [] => .none
  | t :: _ => .int (t : Nat)
def frD (L : List Q2) : PyData := headD ((List.range (L.length - 2)).filter (fallF L))
theorem ints_flat (l : List Nat) : (l.map fun j => PyData.int (j : Nat)).all flatS = true := by
  rw [List.all_map]
  exact List.all_eq_true.mpr fun _ _ => rfl
def R_falling_rate (ds : List PyData) (d : PyData) : Prop := ∃ L : List Q2, ds = [lD L] ∧ Lf 50 L ∧ d = frD L

theorem ok_falling_rate (F : FnP K "falling_rate" s_falling_rate f fd) (T : Txt K mg aZ aO aR) (c_rates_of : Cal P w K mg base 4 "rates_of" (spF K R_rates_of)) (c_is_less : Cal P w K mg base 2 "is_less" (spF K R_is_less))  : FnOk P w K mg base CX0 5 f fd ["life"] (spF K R_falling_rate) := by
  refine fnF F sc_falling_rate (fun ds d h => ?_) (fun cdv A outer s H E ds d hr h => ⟨_, (pss_cons (ps_set (i := 1) sc_falling_rate.nd rfl (Or.inr rfl) (pe_cal c_rates_of hr (by rfl) (pa_cons (pv 0) pa_nil))) (pss_cons (ps_setLc (i := 2) (own := [("t", 3)]) (g := gName 3) rfl sc_falling_rate.nd rfl rfl (sw_true rfl rfl rfl (by decide +kernel)) (pi_range1 (by rfl) T.range (pa_cons (pe_op op_sub (pe_callB call_len_seq (by rfl) T.len (by decide +kernel) (pa_cons (pv 1) pa_nil)) pe_int) pa_nil)) (blkOk_by (N := N_falling_rate) (sc := defScope s_falling_rate) (by decide +kernel)) (fun _ _ _ _ _ => pg_name (i := 3) sc_falling_rate.nd rfl (Or.inl rfl)) (fun _ _ _ _ _ => (pts_one (pt_val (pe_cal c_is_less hr (by rfl) (pa_cons (pe_ix (r := rIxL K) ix_list (pv 1) (pe_op op_add (pv 3) pe_int) (fun _ _ => rfl)) (pa_cons (pe_ix (r := rIxL K) ix_list (pv 1) (pv 3) (fun _ _ => rfl)) pa_nil)))))) (fun _ _ _ _ _ => (pv 3))) (pss_one (ps_ret (pe_ifExp (pt_cmpR (op_neD hr.units) (pv 2) (pe_lst pa_nil) (nomark _)) (pe_ix (r := rIxL K) ix_list (pv 2) pe_int (fun _ _ => rfl)) pe_non))))), ?_⟩)
  · obtain ⟨_, rfl, _⟩ := h
    rfl

  · obtain ⟨L, rfl, hL, rfl⟩ := h
    have l2 := hL.life.len2
    have l13 := hL.life.len13
    refine ds_seq (ds_set (de_call (da_cons (de_var rfl) da_nil) ⟨L, rfl, hL, rfl⟩)) ?_
    refine ds_seq (ds_set (de_lcR (n := L.length - 2) (dw_r1 (da_cons (i_is (de_sub (de_lenL (ds := (List.range (L.length - 1)).map fun t => qD (rate L t)) (de_var rfl)) de_int) (by rw [List.length_map, List.length_range]; omega)) da_nil) (by omega)) (by omega) (fallF L) (fun j => .int (j : Nat)) (fun j hj => ?_) (fun j hj _ => i_is (de_var rfl) (by omega)) (fun _ _ _ => rfl))) ?_
    · have g : ∀ i, i + 1 < L.length → atI ((List.range (L.length - 1)).map fun t => qD (rate L t)) ((i : Nat) : Int) = some (qD (rate L i)) := fun i hi => atI_nat (by
        rw [List.getElem?_map, List.getElem?_range (by omega)]
        rfl)
      refine dt_B (de_call (da_cons (de_ixL (ds := (List.range (L.length - 1)).map fun t => qD (rate L t)) (d := qD (rate L (j + 1))) (de_var rfl) (de_add (de_var rfl) de_int) ?_) (da_cons (de_ixL (ds := (List.range (L.length - 1)).map fun t => qD (rate L t)) (d := qD (rate L j)) (de_var rfl) (de_var rfl) ?_) da_nil)) ⟨_, _, rfl, (hL.rate_sz (by omega)).mono (by decide), (hL.rate_sz (by omega)).mono (by decide), rfl⟩)
      · rw [show (0 + ((j : Nat) : Int) + 1) = ((j + 1 : Nat) : Int) by omega]
        exact g (j + 1) (by omega)
      · rw [show (0 + ((j : Nat) : Int)) = ((j : Nat) : Int) by omega]
        exact g j (by omega)
    refine ds_ret (de_if (dt_test (de_neD (d1 := .list (((List.range (L.length - 2)).filter (fallF L)).map fun j => PyData.int (j : Nat))) (de_var rfl) (de_lst da_nil (Nat.zero_le _)) (shaped_flat (ints_flat _)) (shaped_flat (ds := []) rfl) (eqv_nil _))) (fun e => ?_) (fun e => ?_))
    · unfold frD
      cases z : (List.range (L.length - 2)).filter (fallF L) with
      | nil =>
        rw [z] at e
        cases e
      | cons t r => exact de_ixL (ds := (t :: r).map fun j => PyData.int (j : Nat)) (de_var rfl) de_int (atI_nat (j := 0) rfl)
    · unfold frD
      cases z : (List.range (L.length - 2)).filter (fallF L) with
      | nil => exact de_non
      | cons t r =>
        rw [z] at e
        cases e
def avF (L : List Q2) (j : Nat) : Bool := ltQ (powQ (it L (1 + j)) (1 + j + 1)) (powQ (it L (1 + j + 1)) (1 + j))
def avD (L : List Q2) : PyData := ((List.range (L.length - 2)).find? (avF L)).elim .none fun m => .int (1 + (m : Nat))
theorem pow_ok {L : List Q2} (h : Lf 50 L) {i k : Nat} (hk : k ≤ 13) : Sz 4000 (powQ (it L i) k) := ((h.it_ (by decide) i).pow k).mono (by omega)
def R_falling_average (ds : List PyData) (d : PyData) : Prop := ∃ L : List Q2, ds = [lD L] ∧ Lf 50 L ∧ d = avD L

theorem ok_falling_average (F : FnP K "falling_average" s_falling_average f fd) (T : Txt K mg aZ aO aR) (c_is_less : Cal P w K mg base 2 "is_less" (spF K R_is_less)) (c_power : Cal P w K mg base 4 "power" (spF K R_power))  : FnOk P w K mg base CX0 5 f fd ["life"] (spF K R_falling_average) := by
  refine fnF F sc_falling_average (fun ds d h => ?_) (fun cdv A outer s H E ds d hr h => ⟨_, (pss_cons (ps_for PassesOwn.never rfl (pi_range2 (by rfl) T.range (pa_cons pe_int (pa_cons (pe_op op_sub (pe_callB call_len_seq (by rfl) T.len (by decide +kernel) (pa_cons (pv 0) pa_nil)) pe_int) pa_nil))) (pg_name (i := 1) sc_falling_average.nd rfl (Or.inl rfl)) (pss_one (ps_if (pt_val (pe_cal c_is_less hr (by rfl) (pa_cons (pe_cal c_power hr (by rfl) (pa_cons (pe_ix (r := rIxT K) ix_tup (pv 0) (pv 1) (fun _ _ => rfl)) (pa_cons (pe_op op_add (pv 1) pe_int) pa_nil))) (pa_cons (pe_cal c_power hr (by rfl) (pa_cons (pe_ix (r := rIxT K) ix_tup (pv 0) (pe_op op_add (pv 1) pe_int) (fun _ _ => rfl)) (pa_cons (pv 1) pa_nil))) pa_nil)))) (pss_one (ps_ret (pv 1))) pss_nil))) (pss_one (ps_ret pe_non))), ?_⟩)
  · obtain ⟨_, rfl, _⟩ := h
    rfl

  · obtain ⟨L, rfl, hL, rfl⟩ := h
    have l2 := hL.life.len2
    have l13 := hL.life.len13
    unfold avD
    refine ds_found (ds_for (n := L.length - 2) (dw_r2 (da_cons de_int (da_cons (de_sub (de_llen (L := L) (de_var rfl)) de_int) da_nil)) (by decide) (by decide) (by omega) (by omega) (by omega)) (fun _ => [some (lD L), none]) (.keep (.drop .nil)) (avF L) (fun m => .int (1 + (m : Nat))) (fun j hj e => ?_) (fun j hj e => ?_)) (ds_ret de_non)
    · refine ds_wk (ds_ifF (dt_B ?_) ds_next) (.keep (.drop .nil))
      rw [← e]
      refine de_call (da_cons (de_call (da_cons (de_li (L := L) (n := 1 + j) (de_var rfl) (de_var rfl) (by omega) (by omega)) (da_cons (i_is (de_add (de_var rfl) de_int) (j := ((1 + j + 1 : Nat) : Int)) (by omega)) da_nil)) ⟨_, 50, _, rfl, hL.at_ (by omega), by omega, by decide, by omega, rfl⟩) (da_cons (de_call (da_cons (de_li (L := L) (n := 1 + j + 1) (de_var rfl) (de_add (de_var rfl) de_int) (by omega) (by omega)) (da_cons (i_is (de_var rfl) (j := ((1 + j : Nat) : Int)) (by omega)) da_nil)) ⟨_, 50, _, rfl, hL.at_ (by omega), by omega, by decide, by omega, rfl⟩) da_nil)) ⟨_, _, rfl, pow_ok hL (by omega), pow_ok hL (by omega), rfl⟩
    · refine ds_ifT (dt_B ?_) (ds_ret (de_var rfl))
      rw [← e]
      refine de_call (da_cons (de_call (da_cons (de_li (L := L) (n := 1 + j) (de_var rfl) (de_var rfl) (by omega) (by omega)) (da_cons (i_is (de_add (de_var rfl) de_int) (j := ((1 + j + 1 : Nat) : Int)) (by omega)) da_nil)) ⟨_, 50, _, rfl, hL.at_ (by omega), by omega, by decide, by omega, rfl⟩) (da_cons (de_call (da_cons (de_li (L := L) (n := 1 + j + 1) (de_var rfl) (de_add (de_var rfl) de_int) (by omega) (by omega)) (da_cons (i_is (de_var rfl) (j := ((1 + j : Nat) : Int)) (by omega)) da_nil)) ⟨_, 50, _, rfl, hL.at_ (by omega), by omega, by decide, by omega, rfl⟩) da_nil)) ⟨_, _, rfl, pow_ok hL (by omega), pow_ok hL (by omega), rfl⟩
def nwF (L : List Q2) (s j : Nat) : Bool := ltQ (mulQ (it L s) (it L (s + j))) (it L (s + (s + j)))
def nwI (L : List Q2) (i : Nat) : Option Nat := (List.range (L.length - 2 * (1 + i))).find? (nwF L (1 + i))
def nwR (L : List Q2) (i : Nat) : PyData := (nwI L i).elim .none fun m => .tuple [.int (1 + (i : Nat)), .int (1 + (i : Nat) + (m : Nat))]
def nwD (L : List Q2) : PyData := ((List.range (L.length - 1)).find? (fun i => (nwI L i).isSome)).elim .none (nwR L)
theorem mul_ok {L : List Q2} (h : Lf 50 L) (i j : Nat) : Sz 4000 (mulQ (it L i) (it L j)) := (Sz.mul (h.it_ (by decide) i) (h.it_ (by decide) j)).mono (by decide)
def R_better_than_new (ds : List PyData) (d : PyData) : Prop := ∃ L : List Q2, ds = [lD L] ∧ Lf 50 L ∧ d = nwD L

theorem ok_better_than_new (F : FnP K "better_than_new" s_better_than_new f fd) (T : Txt K mg aZ aO aR) (c_is_less : Cal P w K mg base 2 "is_less" (spF K R_is_less)) (c_times : Cal P w K mg base 3 "times" (spF K R_times))  : FnOk P w K mg base CX0 4 f fd ["life"] (spF K R_better_than_new) := by
  refine fnF F sc_better_than_new (fun ds d h => ?_) (fun cdv A outer s H E ds d hr h => ⟨_, (pss_cons (ps_for PassesOwn.never rfl (pi_range2 (by rfl) T.range (pa_cons pe_int (pa_cons (pe_callB call_len_seq (by rfl) T.len (by decide +kernel) (pa_cons (pv 0) pa_nil)) pa_nil))) (pg_name (i := 1) sc_better_than_new.nd rfl (Or.inl rfl)) (pss_one (ps_for PassesOwn.never rfl (pi_range2 (by rfl) T.range (pa_cons (pv 1) (pa_cons (pe_op op_sub (pe_callB call_len_seq (by rfl) T.len (by decide +kernel) (pa_cons (pv 0) pa_nil)) (pv 1)) pa_nil))) (pg_name (i := 2) sc_better_than_new.nd rfl (Or.inl rfl)) (pss_one (ps_if (pt_val (pe_cal c_is_less hr (by rfl) (pa_cons (pe_cal c_times hr (by rfl) (pa_cons (pe_ix (r := rIxT K) ix_tup (pv 0) (pv 1) (fun _ _ => rfl)) (pa_cons (pe_ix (r := rIxT K) ix_tup (pv 0) (pv 2) (fun _ _ => rfl)) pa_nil))) (pa_cons (pe_ix (r := rIxT K) ix_tup (pv 0) (pe_op op_add (pv 1) (pv 2)) (fun _ _ => rfl)) pa_nil)))) (pss_one (ps_ret (pe_tup (pa_cons (pv 1) (pa_cons (pv 2) pa_nil))))) pss_nil))))) (pss_one (ps_ret pe_non))), ?_⟩)
  · obtain ⟨_, rfl, _⟩ := h
    rfl

  · obtain ⟨L, rfl, hL, rfl⟩ := h
    have l2 := hL.life.len2
    have l13 := hL.life.len13
    unfold nwD
    refine ds_found (ds_for (n := L.length - 1) (dw_r2 (da_cons de_int (da_cons (de_llen (L := L) (de_var rfl)) da_nil)) (by decide) (by decide) (by omega) (by omega) (by omega)) (fun _ => [some (lD L), none, none]) (.keep (.drop (.drop .nil))) (fun i => (nwI L i).isSome) (nwR L) (fun i hi e => ?_) (fun i hi e => ?_)) (ds_ret de_non)
    · refine ds_wk (ρ1 := [some (lD L), some (.int (1 + (i : Nat))), none]) (ds_is (ds_for (n := L.length - 2 * (1 + i)) (dw_r2 (da_cons (de_var rfl) (da_cons (de_sub (de_llen (L := L) (de_var rfl)) (de_var rfl)) da_nil)) (by omega) (by omega) (by omega) (by omega) (by omega)) (fun _ => [some (lD L), some (.int (1 + (i : Nat))), none]) (.keep (.keep (.drop .nil))) (nwF L (1 + i)) (fun m => .tuple [.int (1 + (i : Nat)), .int (1 + (i : Nat) + (m : Nat))])
        (fun j hj e => ds_wk (ds_ifF (dt_B (by rw [← e]; exact de_call (da_cons (de_call (da_cons (de_li (L := L) (n := 1 + i) (de_var rfl) (de_var rfl) (by omega) (by omega)) (da_cons (de_li (L := L) (n := 1 + i + j) (de_var rfl) (de_var rfl) (by omega) (by omega)) da_nil)) ⟨_, _, rfl, (hL.at_ (by omega)).mono (by decide), (hL.at_ (by omega)).mono (by decide), trivial, rfl⟩) (da_cons (de_li (L := L) (n := 1 + i + (1 + i + j)) (de_var rfl) (de_add (de_var rfl) (de_var rfl)) (by omega) (by omega)) da_nil)) ⟨_, _, rfl, mul_ok hL _ _, (hL.at_ (by omega)).mono (by decide), rfl⟩)) ds_next) (.keep (.keep (.drop .nil))))
        (fun j hj e => ds_ifT (dt_B (by rw [← e]; exact de_call (da_cons (de_call (da_cons (de_li (L := L) (n := 1 + i) (de_var rfl) (de_var rfl) (by omega) (by omega)) (da_cons (de_li (L := L) (n := 1 + i + j) (de_var rfl) (de_var rfl) (by omega) (by omega)) da_nil)) ⟨_, _, rfl, (hL.at_ (by omega)).mono (by decide), (hL.at_ (by omega)).mono (by decide), trivial, rfl⟩) (da_cons (de_li (L := L) (n := 1 + i + (1 + i + j)) (de_var rfl) (de_add (de_var rfl) (de_var rfl)) (by omega) (by omega)) da_nil)) ⟨_, _, rfl, mul_ok hL _ _, (hL.at_ (by omega)).mono (by decide), rfl⟩)) (ds_ret (de_tup (da_cons (de_var rfl) (da_cons (de_var rfl) da_nil)) (by show 2 ≤ 100000; decide))))) ?_) (.keep (.drop (.drop .nil)))
      show (nwI L i).elim _ _ = _
      cases z : nwI L i with
      | none => rfl
      | some m =>
        rw [z] at e
        cases e
    · refine ds_is (ds_for (n := L.length - 2 * (1 + i)) (dw_r2 (da_cons (de_var rfl) (da_cons (de_sub (de_llen (L := L) (de_var rfl)) (de_var rfl)) da_nil)) (by omega) (by omega) (by omega) (by omega) (by omega)) (fun _ => [some (lD L), some (.int (1 + (i : Nat))), none]) (.keep (.keep (.drop .nil))) (nwF L (1 + i)) (fun m => .tuple [.int (1 + (i : Nat)), .int (1 + (i : Nat) + (m : Nat))])
        (fun j hj e => ds_wk (ds_ifF (dt_B (by rw [← e]; exact de_call (da_cons (de_call (da_cons (de_li (L := L) (n := 1 + i) (de_var rfl) (de_var rfl) (by omega) (by omega)) (da_cons (de_li (L := L) (n := 1 + i + j) (de_var rfl) (de_var rfl) (by omega) (by omega)) da_nil)) ⟨_, _, rfl, (hL.at_ (by omega)).mono (by decide), (hL.at_ (by omega)).mono (by decide), trivial, rfl⟩) (da_cons (de_li (L := L) (n := 1 + i + (1 + i + j)) (de_var rfl) (de_add (de_var rfl) (de_var rfl)) (by omega) (by omega)) da_nil)) ⟨_, _, rfl, mul_ok hL _ _, (hL.at_ (by omega)).mono (by decide), rfl⟩)) ds_next) (.keep (.keep (.drop .nil))))
        (fun j hj e => ds_ifT (dt_B (by rw [← e]; exact de_call (da_cons (de_call (da_cons (de_li (L := L) (n := 1 + i) (de_var rfl) (de_var rfl) (by omega) (by omega)) (da_cons (de_li (L := L) (n := 1 + i + j) (de_var rfl) (de_var rfl) (by omega) (by omega)) da_nil)) ⟨_, _, rfl, (hL.at_ (by omega)).mono (by decide), (hL.at_ (by omega)).mono (by decide), trivial, rfl⟩) (da_cons (de_li (L := L) (n := 1 + i + (1 + i + j)) (de_var rfl) (de_add (de_var rfl) (de_var rfl)) (by omega) (by omega)) da_nil)) ⟨_, _, rfl, mul_ok hL _ _, (hL.at_ (by omega)).mono (by decide), rfl⟩)) (ds_ret (de_tup (da_cons (de_var rfl) (da_cons (de_var rfl) da_nil)) (by show 2 ≤ 100000; decide))))) ?_
      unfold nwR
      show (nwI L i).elim _ _ = _
      cases z : nwI L i with
      | none =>
        rw [z] at e
        cases e
      | some m => rfl
def mnF (L : List Q2) (j : Nat) : Bool := ltQ (mulQ (sumQ L) (it L j)) (sumQ (L.drop j))
def mnD (L : List Q2) : PyData := ((List.range L.length).find? (mnF L)).elim .none fun m => .int (0 + (m : Nat))
theorem sum_ok {n : Nat} {L : List Q2} (h : Lf n L) (hn : n ≤ 100) (t : Nat) : Sz 1400 (sumQ (L.drop t)) := by
  have l13 := h.life.len13
  refine (sum_sz (n := n) (l := L.drop t) fun q hq => h.sz q (List.mem_of_mem_drop hq)).mono ?_
  rw [List.length_drop]
  have : (L.length - t) * (n + 1) ≤ 13 * 101 := Nat.mul_le_mul (by omega) (by omega)
  omega
theorem drop_n {n : Nat} {L : List Q2} (h : Lf n L) (hn : n ≤ 100) (t : Nat) : 1 + (L.drop t).length * (n + 1) ≤ 4000 := by
  have l13 := h.life.len13
  rw [List.length_drop]
  have : (L.length - t) * (n + 1) ≤ 13 * 101 := Nat.mul_le_mul (by omega) (by omega)
  omega
def R_better_mean (ds : List PyData) (d : PyData) : Prop := ∃ L : List Q2, ds = [lD L] ∧ Lf 50 L ∧ d = mnD L

theorem ok_better_mean (F : FnP K "better_mean" s_better_mean f fd) (T : Txt K mg aZ aO aR) (c_total_of : Cal P w K mg base 4 "total_of" (spF K R_total_of)) (c_is_less : Cal P w K mg base 2 "is_less" (spF K R_is_less)) (c_times : Cal P w K mg base 3 "times" (spF K R_times))  : FnOk P w K mg base CX0 5 f fd ["life"] (spF K R_better_mean) := by
  refine fnF F sc_better_mean (fun ds d h => ?_) (fun cdv A outer s H E ds d hr h => ⟨_, (pss_cons (ps_set (i := 1) sc_better_mean.nd rfl (Or.inl rfl) (pe_cal c_total_of hr (by rfl) (pa_cons (pv 0) pa_nil))) (pss_cons (ps_for PassesOwn.never rfl (pi_range1 (by rfl) T.range (pa_cons (pe_callB call_len_seq (by rfl) T.len (by decide +kernel) (pa_cons (pv 0) pa_nil)) pa_nil)) (pg_name (i := 2) sc_better_mean.nd rfl (Or.inl rfl)) (pss_one (ps_if (pt_val (pe_cal c_is_less hr (by rfl) (pa_cons (pe_cal c_times hr (by rfl) (pa_cons (pv 1) (pa_cons (pe_ix (r := rIxT K) ix_tup (pv 0) (pv 2) (fun _ _ => rfl)) pa_nil))) (pa_cons (pe_cal c_total_of hr (by rfl) (pa_cons (pe_slice (r := rSlA K) sl_tupA (pv 0) (po_some (pv 2)) po_none) pa_nil)) pa_nil)))) (pss_one (ps_ret (pv 2))) pss_nil))) (pss_one (ps_ret pe_non)))), ?_⟩)
  · obtain ⟨_, rfl, _⟩ := h
    rfl

  · obtain ⟨L, rfl, hL, rfl⟩ := h
    have l2 := hL.life.len2
    have l13 := hL.life.len13
    have s0 : Sz 1400 (sumQ L) := sum_ok hL (by decide) 0
    refine ds_seq (ds_set (de_call (da_cons (de_var rfl) da_nil) ⟨L, 50, rfl, hL.sz, drop_n hL (by decide) 0, rfl⟩)) ?_
    unfold mnD
    refine ds_found (ds_for (n := L.length) (dw_r1 (da_cons (de_llen (L := L) (de_var rfl)) da_nil) (by omega)) (fun _ => [some (lD L), some (qD (sumQ L)), none]) (.keep (.keep (.drop .nil))) (mnF L) (fun m => .int (0 + (m : Nat))) (fun j hj e => ?_) (fun j hj e => ?_)) (ds_ret de_non)
    · refine ds_wk (ds_ifF (dt_B ?_) ds_next) (.keep (.keep (.drop .nil)))
      rw [← e]
      exact de_call (da_cons (de_call (da_cons (de_var rfl) (da_cons (de_li (L := L) (n := j) (de_var rfl) (de_var rfl) (by omega) hj) da_nil)) ⟨_, _, rfl, s0.mono (by decide), (hL.at_ hj).mono (by decide), trivial, rfl⟩) (da_cons (de_call (da_cons (de_ldrop (L := L) (t := j) (de_var rfl) (i_is (de_var rfl) (by omega)) (by omega)) da_nil) ⟨L.drop j, 50, rfl, fun q hq => hL.sz q (List.mem_of_mem_drop hq), drop_n hL (by decide) j, rfl⟩) da_nil)) ⟨_, _, rfl, (Sz.mul s0 (hL.at_ hj)).mono (by decide), (sum_ok hL (by decide) j).mono (by decide), rfl⟩
    · refine ds_ifT (dt_B ?_) (ds_ret (de_var rfl))
      rw [← e]
      exact de_call (da_cons (de_call (da_cons (de_var rfl) (da_cons (de_li (L := L) (n := j) (de_var rfl) (de_var rfl) (by omega) hj) da_nil)) ⟨_, _, rfl, s0.mono (by decide), (hL.at_ hj).mono (by decide), trivial, rfl⟩) (da_cons (de_call (da_cons (de_ldrop (L := L) (t := j) (de_var rfl) (i_is (de_var rfl) (by omega)) (by omega)) da_nil) ⟨L.drop j, 50, rfl, fun q hq => hL.sz q (List.mem_of_mem_drop hq), drop_n hL (by decide) j, rfl⟩) da_nil)) ⟨_, _, rfl, (Sz.mul s0 (hL.at_ hj)).mono (by decide), (sum_ok hL (by decide) j).mono (by decide), rfl⟩
def belowB (A B : List Q2) : Bool := ((List.range A.length).filter fun t => ltQ (it B t) (it A t)).isEmpty
def R_below_by (ds : List PyData) (d : PyData) : Prop := ∃ A B : List Q2, ds = [lD A, lD B, .str "chance"] ∧ Lf 100 A ∧ Lf 100 B ∧ d = .bool (belowB A B)

theorem ok_below_by (F : FnP K "below_by" s_below_by f fd) (T : Txt K mg aZ aO aR) (c_is_less : Cal P w K mg base 2 "is_less" (spF K R_is_less)) (c_item : Cal P w K mg base 1 "item" (spF K R_item))  : FnOk P w K mg base CX0 3 f fd ["one", "other", "word"] (spF K R_below_by) := by
  refine fnF F sc_below_by (fun ds d h => ?_) (fun cdv A outer s H E ds d hr h => ⟨_, (pss_cons (ps_if (pt_cmpR op_eq (pv 2) pe_str (nomark _)) (pss_one (ps_ret (pe_cmpR (op_eqD hr.units) (pe_lc (own := [("t", 3)]) (g := gName 3) rfl sc_below_by.nd (pi_range1 (by rfl) T.range (pa_cons (pe_callB call_len_seq (by rfl) T.len (by decide +kernel) (pa_cons (pv 0) pa_nil)) pa_nil)) (blkOk_by (N := N_below_by) (sc := defScope s_below_by) (by decide +kernel)) (fun _ _ _ _ _ => pg_name (i := 3) sc_below_by.nd rfl (Or.inl rfl)) (fun _ _ _ _ _ => (pts_one (pt_val (pe_cal c_is_less hr (by rfl) (pa_cons (pe_cal c_item hr (by rfl) (pa_cons (pv 1) (pa_cons (pv 3) pa_nil))) (pa_cons (pe_ix (r := rIxT K) ix_tup (pv 0) (pv 3) (fun _ _ => rfl)) pa_nil)))))) (fun _ _ _ _ _ => (pv 3))) (pe_lst pa_nil) (nomark _)))) pss_nil) (pss_cons ps_never (pss_one ps_never))), ?_⟩)
  · obtain ⟨_, _, rfl, _⟩ := h
    rfl

  · obtain ⟨L, B, rfl, hA, hB, rfl⟩ := h
    have l13 := hA.life.len13
    refine ds_rt (ds_ifT (dt_test (de_is (de_eq (de_var rfl) de_str sc_str) rfl)) (ds_ret (de_eqD (de_lcR (n := L.length) (dw_r1 (da_cons (de_llen (L := L) (de_var rfl)) da_nil) (by omega)) (by omega) (fun t => ltQ (it B t) (it L t)) (fun j => .int (j : Nat)) (fun j hj => ?_) (fun j hj _ => i_is (de_var rfl) (by omega)) (fun _ _ _ => rfl)) (de_lst da_nil (Nat.zero_le _)) (shaped_flat (ints_flat _)) (shaped_flat (ds := []) rfl) ?_)))
    · exact dt_B (de_call (da_cons (de_call (da_cons (de_var rfl) (da_cons (i_is (de_var rfl) (j := ((j : Nat) : Int)) (by omega)) da_nil)) ⟨B, j, rfl, rfl⟩) (da_cons (de_li (L := L) (n := j) (de_var rfl) (de_var rfl) (by omega) hj) da_nil)) ⟨_, _, rfl, (hB.it_ (by decide) j).mono (by decide), (hA.at_ hj).mono (by decide), rfl⟩)
    · rw [eqv_nil, List.isEmpty_map]
      rfl
def R_is_below_ageing (ds : List PyData) (d : PyData) : Prop := ∃ A B : List Q2, ds = [lD A, lD B, .str "chance"] ∧ Lf 100 A ∧ Lf 100 B ∧ d = .bool (belowB A B)

theorem ok_is_below_ageing (F : FnP K "is_below" s_is_below_ageing f fd) (T : Txt K mg aZ aO aR) (c_need_life : Cal P w K mg base 5 "need_life" (spF K R_need_life)) (c_below_by : Cal P w K mg base 3 "below_by" (spF K R_below_by))  : FnOk P w K mg base CX0 6 f fd ["one", "other", "word"] (spF K R_is_below_ageing) := by
  refine fnF F sc_is_below_ageing (fun ds d h => ?_) (fun cdv A outer s H E ds d hr h => ⟨_, (pss_cons (ps_expr (pe_cal c_need_life hr (by rfl) (pa_cons (pv 0) pa_nil))) (pss_cons (ps_expr (pe_cal c_need_life hr (by rfl) (pa_cons (pv 1) pa_nil))) (pss_cons (ps_if (PW.pt (pw_or (pt_not (pt_val (pe_callB call_isi (by rfl) T.isinstance (by decide +kernel) (pa_cons (pv 2) (pa_cons (pe_bltn (v := .ty "str") (u := .type "str") (by rfl) T.str (by decide +kernel) rfl) pa_nil))))) (pw_or1 (pt_cmpR op_notIn_seq (pv 2) (pe_glob (v := .ref aR) (by rfl) T.g_ORDERS rfl) (by with_unfolding_all rfl))))) (pss_one ps_never) pss_nil) (pss_one (ps_ret (pe_cal c_below_by hr (by rfl) (pa_cons (pv 0) (pa_cons (pv 1) (pa_cons (pv 2) pa_nil))))))))), ?_⟩)
  · obtain ⟨_, _, rfl, _⟩ := h
    rfl

  · obtain ⟨L, B, rfl, hA, hB, rfl⟩ := h
    refine ds_seq (ds_drop (de_call (da_cons (de_var rfl) da_nil) ⟨L, rfl, hA, rfl⟩)) ?_
    refine ds_seq (ds_drop (de_call (da_cons (de_var rfl) da_nil) ⟨B, rfl, hB, rfl⟩)) ?_
    refine ds_seq (ds_ifF (dt_is (dt_or (dt_not (dt_B (de_isi (d := .str "chance") (de_var rfl) (b := true) (kitT "str" rfl (by decide +kernel))))) fun _ => dt_test (de_notW (b := true) (x := "chance") (xs := ["chance", "rates", "odds"]) (de_var rfl) T.t_ORDERS (by decide +kernel))) rfl) ds_next) ?_
    exact ds_ret (de_call (da_cons (de_var rfl) (da_cons (de_var rfl) (da_cons (de_var rfl) da_nil))) ⟨L, B, rfl, hA, hB, rfl⟩)
end
end Fw
set_option maxHeartbeats 4000000
namespace Fw
open PySem PySem.Spec PyProof.Rows L2
section
variable {P : Program} {w : World} {K : PySem.W.Frag} {mg : Str → Option Value} {base : Heap} {aZ aO aR f : Addr} {fd : FuncData}

theorem bools_flat : ∀ l : List Bool, flatDs (l.map PyData.bool) = true
  | [] => by rw [List.map_nil, flatDs]
  | b :: l => by
    rw [List.map_cons, flatDs, Bool.and_eq_true]
    exact ⟨by rw [flatD], bools_flat l⟩
theorem t_yes {σ : L2.St} {H : Hp} {Q : Bool → Hp → Prop} (h : Q true H) : tYes σ H Q := h
theorem de_ages {a1 a2 a3 a4 : Addr} {S : Addr → Option Sp} {R1 R2 R3 R4 : List PyData → PyData → Prop} (h1 : S a1 = some (spF K R1)) (h2 : S a2 = some (spF K R2)) (h3 : S a3 = some (spF K R3)) (h4 : S a4 = some (spF K R4)) {x d1 d2 d3 d4 : PyData} (r1 : R1 [x] d1) (r2 : R2 [x] d2) (r3 : R3 [x] d3) (r4 : R4 [x] d4)
    {ρ : Rho} (hx : ρ[0]? = some (some x)) (hl : 1 < ρ.length) : DE K (tLc (iTup K (tTup (tCons (tC (.ref a1)) (tCons (tC (.ref a2)) (tCons (tC (.ref a3)) (tCons (tC (.ref a4)) tNil)))))) (gName 1) tYes (tIsN (tCallA 1 S (tCons (tVar 0) tNil))) [1]) ρ (.list [.bool (isN d1), .bool (isN d2), .bool (isN d3), .bool (isN d4)]) := by
  intro σ H e Q q
  refine ⟨(by show 4 ≤ sizeLine; decide), fun p hp => ⟨p, rfl, ⟨_, SqT.of upd_same⟩, fun Lx hL => ?_⟩⟩
  have e1 := e.same (same_new (o := HO.tup [.ref a1, .ref a2, .ref a3, .ref a4]) hp)
  refine lc_tup (xs := [V.ref a1, .ref a2, .ref a3, .ref a4]) (fun j H' => Same (upd H p (.tup [.ref a1, .ref a2, .ref a3, .ref a4])) H' ∧ ∃ acc, H' Lx = some (.lst acc) ∧ DpAll K H' acc (([isN d1, isN d2, isN d3, isN d4].take j).map PyData.bool))
    ⟨same_new hL, [], upd_same, .nil⟩ (fun j H' _ ⟨s, _⟩ => sqT_same s (SqT.of upd_same)) (fun i y H' hy ⟨s, acc, k1, k2⟩ => ?_) (fun H' ⟨s, acc, k1, k2⟩ => q _ H' ((same_new hp).trans s) (.lst (SqL.of k1) k2))
  obtain ⟨fi, Ri, di, rfl, hS, hR, hb⟩ : ∃ fi Ri di, y = V.ref fi ∧ S fi = some (spF K Ri) ∧ Ri [x] di ∧ [isN d1, isN d2, isN d3, isN d4][i]? = some (isN di) := by
    match i, hy with
    | 0, hy => exact ⟨a1, R1, d1, (Option.some.inj hy).symm, h1, r1, rfl⟩
    | 1, hy => exact ⟨a2, R2, d2, (Option.some.inj hy).symm, h2, r2, rfl⟩
    | 2, hy => exact ⟨a3, R3, d3, (Option.some.inj hy).symm, h3, r3, rfl⟩
    | 3, hy => exact ⟨a4, R4, d4, (Option.some.inj hy).symm, h4, r4, rfl⟩
    | n + 4, hy => exact absurd hy (by simp)
  obtain ⟨v, hv1, hv2⟩ := (e1.same s).at_ 0 x hx
  have hlen : acc.length ≤ 4 := by
    rw [dps_len k2, List.length_map, List.length_take]
    show min i 4 ≤ 4
    omega
  show wipe ((wipe σ [1]).set 1 (some (V.ref fi))) [1] = wipe σ [1] ∧ tYes ((wipe σ [1]).set 1 (some (V.ref fi))) H' _
  rw [wipe_set]
  refine ⟨wipe_wipe, t_yes ?_⟩
  refine iteT ?_
  have hs1 : (σ.set 1 (some (V.ref fi)))[1]? = some (some (V.ref fi)) := by
    rw [List.getElem?_set_self (by rw [e.len]; exact hl)]
  refine ⟨fi, _, hs1, hS, v, by rw [List.getElem?_set_ne (by decide)]; exact hv1, [x], di, hR, .cons hv2 .nil, fun w2 H2 s2 hd => ?_⟩
  have k3 : H2 Lx = some (.lst acc) := s2 _ _ k1
  refine ⟨acc, k3, Nat.lt_of_le_of_lt hlen (by decide), same_mut (s.trans s2) hL, acc ++ [.bl (decide (w2 = .non))], upd_same, ?_⟩
  rw [List.take_add_one, hb, List.map_append, isN_dp hd]
  refine dps_app (dps_mut k3 _ ?_ (dps_same s2 _ k2)) (.cons (.bl _) .nil)
  exact bools_flat _
def R_ages (ds : List PyData) (d : PyData) : Prop := ∃ L : List Q2, ds = [lD L] ∧ Lf 50 L ∧ d = .tuple [.bool (isN (frD L)), .bool (isN (avD L)), .bool (isN (nwD L)), .bool (isN (mnD L))]
def pick4 (a1 a2 a3 a4 : Addr) (s1 s2 s3 s4 : Sp) (f : Addr) : Option Sp := if f = a1 then some s1 else if f = a2 then some s2 else if f = a3 then some s3 else if f = a4 then some s4 else none
theorem ok_ages {a_falling_rate a_falling_average a_better_than_new a_better_mean : Addr} (F : FnP K "ages" s_ages f fd) (T : Txt K mg aZ aO aR) (c_need_life : Cal P w K mg base 5 "need_life" (spF K R_need_life))
    (g_falling_rate : mg "falling_rate" = some (.ref a_falling_rate)) (g_falling_average : mg "falling_average" = some (.ref a_falling_average)) (g_better_than_new : mg "better_than_new" = some (.ref a_better_than_new)) (g_better_mean : mg "better_mean" = some (.ref a_better_mean))
    (h1 : Held P w K mg base 5 a_falling_rate (spF K R_falling_rate)) (h2 : Held P w K mg base 5 a_falling_average (spF K R_falling_average)) (h3 : Held P w K mg base 5 a_better_than_new (spF K R_better_than_new)) (h4 : Held P w K mg base 5 a_better_mean (spF K R_better_mean))
    (n12 : a_falling_average ≠ a_falling_rate) (n13 : a_better_than_new ≠ a_falling_rate) (n14 : a_better_mean ≠ a_falling_rate) (n23 : a_better_than_new ≠ a_falling_average) (n24 : a_better_mean ≠ a_falling_average) (n34 : a_better_mean ≠ a_better_than_new) : FnOk P w K mg base CX0 6 f fd ["life"] (spF K R_ages) := by
  generalize hS : pick4 a_falling_rate a_falling_average a_better_than_new a_better_mean (spF K R_falling_rate) (spF K R_falling_average) (spF K R_better_than_new) (spF K R_better_mean) = S4
  have hA : ∀ f sp, S4 f = some sp → Held P w K mg base 5 f sp := fun f sp h => by
    rw [← hS] at h
    unfold pick4 at h
    split at h
    · rename_i e
      cases h
      rw [e]
      exact h1
    · split at h
      · rename_i e
        cases h
        rw [e]
        exact h2
      · split at h
        · rename_i e
          cases h
          rw [e]
          exact h3
        · split at h
          · rename_i e
            cases h
            rw [e]
            exact h4
          · cases h
  refine fnF F sc_ages (fun ds d h => ?_) (fun cdv A outer s H E ds d hr h => ⟨_, (pss_cons (ps_expr (pe_cal c_need_life hr (by rfl) (pa_cons (pv 0) pa_nil))) (pss_one (ps_ret (pe_callTy call_tuple_of (by rfl) T.tuple (by decide +kernel) (pa_cons (pe_lc (own := [("work", 1)]) (g := gName 1) rfl sc_ages.nd (pi_tup (pe_tup (pa_cons (pe_glob (v := .ref a_falling_rate) (by rfl) g_falling_rate rfl) (pa_cons (pe_glob (v := .ref a_falling_average) (by rfl) g_falling_average rfl) (pa_cons (pe_glob (v := .ref a_better_than_new) (by rfl) g_better_than_new rfl) (pa_cons (pe_glob (v := .ref a_better_mean) (by rfl) g_better_mean rfl) pa_nil)))))) (blkOk_by (N := N_ages) (sc := defScope s_ages) (by decide +kernel)) (fun _ _ _ _ _ => pg_name (i := 1) sc_ages.nd rfl (Or.inl rfl)) (fun _ _ _ _ _ => pts_nil) (fun _ _ _ _ _ => (pe_cmp (pc_isN (pe_callA (i := 1) (S := S4) hA hr rfl (Or.inl rfl) (pa_cons (pv 0) pa_nil)))))) pa_nil))))), ?_⟩)
  · obtain ⟨_, rfl, _⟩ := h
    rfl
  · obtain ⟨L, rfl, hL, rfl⟩ := h
    refine ds_seq (ds_drop (de_call (da_cons (de_var rfl) da_nil) ⟨L, rfl, hL.mono (by decide), rfl⟩)) (ds_ret (de_tupleL (de_ages (R1 := R_falling_rate) (R2 := R_falling_average) (R3 := R_better_than_new) (R4 := R_better_mean) (x := lD L) ?_ ?_ ?_ ?_ ⟨L, rfl, hL, rfl⟩ ⟨L, rfl, hL, rfl⟩ ⟨L, rfl, hL, rfl⟩ ⟨L, rfl, hL, rfl⟩ rfl (by show 1 < 2; decide))))
    · rw [← hS]
      unfold pick4
      rw [if_pos rfl]
    · rw [← hS]
      unfold pick4
      rw [if_neg n12, if_pos rfl]
    · rw [← hS]
      unfold pick4
      rw [if_neg n13, if_neg n23, if_pos rfl]
    · rw [← hS]
      unfold pick4
      rw [if_neg n14, if_neg n24, if_neg n34, if_pos rfl]
end
end Fw
set_option maxHeartbeats 4000000
namespace Fw
open PySem PySem.Spec PyProof.Rows L2
section
variable {P : Program} {w : World} {K : PySem.W.Frag} {mg : Str → Option Value} {base : Heap} {aZ aO aR f : Addr} {fd : FuncData}

def R__law_gcd (ds : List PyData) (d : PyData) : Prop := ∃ a b : Int, ds = [.int a, .int b] ∧ d = .int (gc a b)

theorem ok__law_gcd (F : FnP K "_law_gcd" s__law_gcd f fd) (T : Txt K mg aZ aO aR)   : FnOk P w K mg base CX0 1 f fd ["_law_one", "_law_other"] (spF K R__law_gcd) := by
  refine fnF F sc__law_gcd (fun ds d h => ?_) (fun cdv A outer s H E ds d hr h => ⟨_, (pss_cons (ps_par (i := 0) (j := 1) rfl sc__law_gcd.nd rfl rfl (by decide) rfl rfl (pa_cons (pe_callB call_abs (by rfl) T.abs (by decide +kernel) (pa_cons (pv 0) pa_nil)) (pa_cons (pe_callB call_abs (by rfl) T.abs (by decide +kernel) (pa_cons (pv 1) pa_nil)) pa_nil)) (by rfl)) (pss_cons (ps_while PassesOwn.never (pt_cmpR op_ne (pv 1) pe_int (nomark _)) (pss_one (ps_par (i := 0) (j := 1) rfl sc__law_gcd.nd rfl rfl (by decide) rfl rfl (pa_cons (pv 1) (pa_cons (pe_op op_mod (pe_callTy call_int1 (by rfl) T.int (by decide +kernel) (pa_cons (pv 0) pa_nil)) (pv 1)) pa_nil)) (by rfl)))) (pss_one (ps_ret (pv 0))))), ?_⟩)
  · obtain ⟨_, _, rfl, _⟩ := h
    rfl

  · obtain ⟨a, b, rfl, rfl⟩ := h
    refine ds_seq (ds_par (da_cons (de_abs (de_var rfl)) (da_cons (de_abs (de_var rfl)) da_nil))) ?_
    refine ds_seq (ρ1 := [some (.int (gc a b)), some (.int 0)]) (ds_while (α := Int × Int) (fun x => [some (.int x.1), some (.int x.2)]) (fun x => 0 ≤ x.1 ∧ 0 ≤ x.2 ∧ Int.gcd x.1 x.2 = Int.gcd a b) (fun x => !decide (x.2 = 0)) (fun x => (x.2, x.1 % x.2)) (fun x => x.2.natAbs)
      (((a.natAbs : Nat) : Int), ((b.natAbs : Nat) : Int)) rfl ⟨by show (0 : Int) ≤ (a.natAbs : Nat); omega, by show (0 : Int) ≤ (b.natAbs : Nat); omega, gcd_abs a b⟩ (fun x _ => dt_test (de_ne (de_var rfl) de_int sc_int)) (fun x ⟨h1, h2, h3⟩ hc => ?_) (fun x ⟨h1, h2, h3⟩ hc => ?_)) (ds_ret (de_var rfl))
    · have h4 : 0 < x.2 := by
        have h5 : ¬ x.2 = 0 := by simpa using hc
        omega
      refine ⟨ds_par (da_cons (de_var rfl) (da_cons (de_mod (de_int1 (de_var rfl)) (de_var rfl) h4) da_nil)), ⟨h2, Int.emod_nonneg _ (by omega), gcd_turn h1 h4 h3⟩, ?_⟩
      have h6 := Int.emod_nonneg x.1 (show x.2 ≠ 0 by omega)
      have h7 := Int.emod_lt_of_pos x.1 h4
      show (x.1 % x.2).natAbs < x.2.natAbs
      omega
    · have h5 : x.2 = 0 := by simpa using hc
      show [some (PyData.int x.1), some (PyData.int x.2)] = _
      rw [gcd_end h1 h5 h3, h5]
def R__law_ratio (ds : List PyData) (d : PyData) : Prop := ∃ n m : Int, ds = [.int n, .int m] ∧ 0 < m ∧ m.natAbs < 2 ^ 8500 ∧ d = qD (red n m)

theorem ok__law_ratio (F : FnP K "_law_ratio" s__law_ratio f fd) (T : Txt K mg aZ aO aR) (c__law_gcd : Cal P w K mg base 1 "_law_gcd" (spF K R__law_gcd))  : FnOk P w K mg base CX0 2 f fd ["_law_numerator", "_law_denominator"] (spF K R__law_ratio) := by
  refine fnF F sc__law_ratio (fun ds d h => ?_) (fun cdv A outer s H E ds d hr h => ⟨_, (pss_cons (ps_set (i := 2) sc__law_ratio.nd rfl (Or.inl rfl) (pe_cal c__law_gcd hr (by rfl) (pa_cons (pv 0) (pa_cons (pv 1) pa_nil)))) (pss_cons (ps_set (i := 2) sc__law_ratio.nd rfl (Or.inl rfl) (pe_ifExp (pt_cmpR op_lt (pv 1) pe_int (nomark _)) (pe_op op_sub pe_int (pv 2)) (pv 2))) (pss_one (ps_ret (pe_tup (pa_cons (pe_op op_fdivW (pv 0) (pv 2)) (pa_cons (pe_op op_fdivW (pv 1) (pv 2)) pa_nil))))))), ?_⟩)
  · obtain ⟨_, _, rfl, _⟩ := h
    rfl

  · obtain ⟨n, m, rfl, hm, hs, rfl⟩ := h
    have g0 := gc_pos (n := n) hm
    have g1 := gc_le (n := n) hm
    have hc : ∀ x, CDivW x (gc n m) := fun x => wide_div g0 (Nat.lt_of_le_of_lt g1 hs) (by decide) (by decide)
    refine ds_seq (ds_set (de_call (da_cons (de_var rfl) (da_cons (de_var rfl) da_nil)) ⟨n, m, rfl, rfl⟩)) ?_
    
    refine ds_seq (ds_set (de_if (dt_test (de_is (de_lt (de_var rfl) de_int) (by rw [decide_eq_false (by omega)]))) (fun z => Bool.noConfusion z) (fun _ => de_var rfl))) ?_
    exact ds_ret (de_tup (da_cons (de_divW (de_var rfl) (de_var rfl) (hc _)) (da_cons (de_divW (de_var rfl) (de_var rfl) (hc _)) da_nil)) (by show 2 ≤ 100000; decide))
def R__law_times (ds : List PyData) (d : PyData) : Prop := R_two mulQ (fun _ _ => True) ds d

theorem ok__law_times (F : FnP K "_law_times" s__law_times f fd) (T : Txt K mg aZ aO aR) (c__law_ratio : Cal P w K mg base 2 "_law_ratio" (spF K R__law_ratio))  : FnOk P w K mg base CX0 3 f fd ["_law_one", "_law_other"] (spF K R__law_times) := by
  refine fnF F sc__law_times (fun ds d h => ?_) (fun cdv A outer s H E ds d hr h => ⟨_, (pss_one (ps_ret (pe_cal c__law_ratio hr (by rfl) (pa_cons (pe_op op_mulW (pe_ix (r := rIxT K) ix_tup (pv 0) pe_int (fun _ _ => rfl)) (pe_ix (r := rIxT K) ix_tup (pv 1) pe_int (fun _ _ => rfl))) (pa_cons (pe_op op_mulW (pe_ix (r := rIxT K) ix_tup (pv 0) pe_int (fun _ _ => rfl)) (pe_ix (r := rIxT K) ix_tup (pv 1) pe_int (fun _ _ => rfl))) pa_nil))))), ?_⟩)
  · obtain ⟨_, _, rfl, _⟩ := h
    rfl

  · obtain ⟨p, q, rfl, hp, hq, hpre, rfl⟩ := h
    exact ds_ret (de_call (da_cons (de_mulW (de_q0 (q := p) (de_var rfl)) (de_q0 (q := q) (de_var rfl)) (big_mul hp.num hq.num)) (da_cons (de_mulW (de_q1 (q := p) (de_var rfl)) (de_q1 (q := q) (de_var rfl)) (big_mul hp.den hq.den)) da_nil)) ⟨_, _, rfl, Int.mul_pos hp.pos hq.pos, big_den hp.den hq.den, rfl⟩)
def R__law_plus (ds : List PyData) (d : PyData) : Prop := R_two addQ (fun _ _ => True) ds d

theorem ok__law_plus (F : FnP K "_law_plus" s__law_plus f fd) (T : Txt K mg aZ aO aR) (c__law_ratio : Cal P w K mg base 2 "_law_ratio" (spF K R__law_ratio))  : FnOk P w K mg base CX0 3 f fd ["_law_one", "_law_other"] (spF K R__law_plus) := by
  refine fnF F sc__law_plus (fun ds d h => ?_) (fun cdv A outer s H E ds d hr h => ⟨_, (pss_one (ps_ret (pe_cal c__law_ratio hr (by rfl) (pa_cons (pe_op op_add (pe_op op_mulW (pe_ix (r := rIxT K) ix_tup (pv 0) pe_int (fun _ _ => rfl)) (pe_ix (r := rIxT K) ix_tup (pv 1) pe_int (fun _ _ => rfl))) (pe_op op_mulW (pe_ix (r := rIxT K) ix_tup (pv 1) pe_int (fun _ _ => rfl)) (pe_ix (r := rIxT K) ix_tup (pv 0) pe_int (fun _ _ => rfl)))) (pa_cons (pe_op op_mulW (pe_ix (r := rIxT K) ix_tup (pv 0) pe_int (fun _ _ => rfl)) (pe_ix (r := rIxT K) ix_tup (pv 1) pe_int (fun _ _ => rfl))) pa_nil))))), ?_⟩)
  · obtain ⟨_, _, rfl, _⟩ := h
    rfl

  · obtain ⟨p, q, rfl, hp, hq, hpre, rfl⟩ := h
    exact ds_ret (de_call (da_cons (de_add (de_mulW (de_q0 (q := p) (de_var rfl)) (de_q1 (q := q) (de_var rfl)) (big_mul hp.num hq.den)) (de_mulW (de_q0 (q := q) (de_var rfl)) (de_q1 (q := p) (de_var rfl)) (big_mul hq.num hp.den))) (da_cons (de_mulW (de_q1 (q := p) (de_var rfl)) (de_q1 (q := q) (de_var rfl)) (big_mul hp.den hq.den)) da_nil)) ⟨_, _, rfl, Int.mul_pos hp.pos hq.pos, big_den hp.den hq.den, rfl⟩)
def R__law_less (ds : List PyData) (d : PyData) : Prop := ∃ p q : Q2, ds = [qD p, qD q] ∧ Sz 4000 p ∧ Sz 4000 q ∧ d = .bool (ltQ p q)

theorem ok__law_less (F : FnP K "_law_less" s__law_less f fd) (T : Txt K mg aZ aO aR)   : FnOk P w K mg base CX0 1 f fd ["_law_one", "_law_other"] (spF K R__law_less) := by
  refine fnF F sc__law_less (fun ds d h => ?_) (fun cdv A outer s H E ds d hr h => ⟨_, (pss_one (ps_ret (pe_cmpR op_lt (pe_op op_mulW (pe_ix (r := rIxT K) ix_tup (pv 0) pe_int (fun _ _ => rfl)) (pe_ix (r := rIxT K) ix_tup (pv 1) pe_int (fun _ _ => rfl))) (pe_op op_mulW (pe_ix (r := rIxT K) ix_tup (pv 1) pe_int (fun _ _ => rfl)) (pe_ix (r := rIxT K) ix_tup (pv 0) pe_int (fun _ _ => rfl))) (nomark _)))), ?_⟩)
  · obtain ⟨_, _, rfl, _⟩ := h
    rfl

  · obtain ⟨p, q, rfl, hp, hq, rfl⟩ := h
    exact ds_ret (de_lt (de_mulW (de_q0 (q := p) (de_var rfl)) (de_q1 (q := q) (de_var rfl)) (big_mul hp.num hq.den)) (de_mulW (de_q0 (q := q) (de_var rfl)) (de_q1 (q := p) (de_var rfl)) (big_mul hq.num hp.den)))
def R__law_sum (ds : List PyData) (d : PyData) : Prop := ∃ (L : List Q2) (n : Nat), ds = [lD L] ∧ (∀ q ∈ L, Sz n q) ∧ 1 + L.length * (n + 1) ≤ 4000 ∧ d = qD (sumQ L)

theorem ok__law_sum (F : FnP K "_law_sum" s__law_sum f fd) (T : Txt K mg aZ aO aR) (c__law_plus : Cal P w K mg base 3 "_law_plus" (spF K R__law_plus))  : FnOk P w K mg base CX0 4 f fd ["_law_values"] (spF K R__law_sum) := by
  refine fnF F sc__law_sum (fun ds d h => ?_) (fun cdv A outer s H E ds d hr h => ⟨_, (pss_cons (ps_set (i := 1) sc__law_sum.nd rfl (Or.inl rfl) (pe_tup (pa_cons pe_int (pa_cons pe_int pa_nil)))) (pss_cons (ps_for PassesOwn.never rfl (pi_tup (pv 0)) (pg_name (i := 2) sc__law_sum.nd rfl (Or.inl rfl)) (pss_one (ps_set (i := 1) sc__law_sum.nd rfl (Or.inl rfl) (pe_cal c__law_plus hr (by rfl) (pa_cons (pv 1) (pa_cons (pv 2) pa_nil)))))) (pss_one (ps_ret (pv 1))))), ?_⟩)
  · obtain ⟨_, _, rfl, _⟩ := h
    rfl

  · obtain ⟨L, n, rfl, h1, h2, rfl⟩ := h
    refine ds_seq (ds_set (d := qD (0, 1)) (de_tup (da_cons de_int (da_cons de_int da_nil)) (by show 2 ≤ 100000; decide))) ?_
    refine ds_seq (ds_forT (ds := L.map qD) (de_var rfl) (fun j => [some (lD L), some (qD (sumQ (L.take j))), none]) (.keep (.keep (.drop .nil))) fun j x hj => ?_) (ds_ret (de_is (de_var rfl) ?_))
    · obtain ⟨q, hq, rfl⟩ : ∃ q, L[j]? = some q ∧ x = qD q := by
        rw [List.getElem?_map] at hj
        cases e : L[j]? with
        | none =>
          rw [e] at hj
          cases hj
        | some q =>
          rw [e] at hj
          exact ⟨q, rfl, (Option.some.inj hj).symm⟩
      have hm : q ∈ L := List.mem_of_getElem? hq
      have hjl : j < L.length := (List.getElem?_eq_some_iff.mp hq).1
      have s1 := sum_sz (l := L.take j) (n := n) fun z hz => h1 z (List.mem_of_mem_take hz)
      have s2 : 1 + (L.take j).length * (n + 1) ≤ 4000 := by
        rw [List.length_take]
        have : min j L.length * (n + 1) ≤ L.length * (n + 1) := Nat.mul_le_mul_right _ (Nat.min_le_right _ _)
        omega
      have s3 : n ≤ 4000 := by
        have : 1 * (n + 1) ≤ L.length * (n + 1) := Nat.mul_le_mul_right _ (by omega)
        omega
      refine ds_wk (ds_set (de_call (da_cons (de_var rfl) (da_cons (de_var rfl) da_nil)) ⟨sumQ (L.take j), q, rfl, s1.mono s2, (h1 q hm).mono s3, trivial, rfl⟩)) ?_
      rw [← sum_take hq]
      exact .keep (.keep (.drop .nil))
    · rw [List.length_map, List.take_length]
def R__law_less_one (ds : List PyData) (d : PyData) : Prop := ∃ q : Q2, ds = [qD q] ∧ d = qD (l1 q)

theorem ok__law_less_one (F : FnP K "_law_less_one" s__law_less_one f fd) (T : Txt K mg aZ aO aR)   : FnOk P w K mg base CX0 1 f fd ["_law_one"] (spF K R__law_less_one) := by
  refine fnF F sc__law_less_one (fun ds d h => ?_) (fun cdv A outer s H E ds d hr h => ⟨_, (pss_one (ps_ret (pe_tup (pa_cons (pe_op op_sub (pe_ix (r := rIxT K) ix_tup (pv 0) pe_int (fun _ _ => rfl)) (pe_ix (r := rIxT K) ix_tup (pv 0) pe_int (fun _ _ => rfl))) (pa_cons (pe_ix (r := rIxT K) ix_tup (pv 0) pe_int (fun _ _ => rfl)) pa_nil))))), ?_⟩)
  · obtain ⟨_, rfl, _⟩ := h
    rfl

  · obtain ⟨q, rfl, rfl⟩ := h
    exact ds_ret (de_tup (da_cons (de_sub (de_q1 (q := q) (de_var rfl)) (de_q0 (q := q) (de_var rfl))) (da_cons (de_q1 (q := q) (de_var rfl)) da_nil)) (by show 2 ≤ 100000; decide))
def R__law_power (ds : List PyData) (d : PyData) : Prop := ∃ (b : Q2) (n k : Nat), ds = [qD b, .int (k : Nat)] ∧ Sz n b ∧ n * k + 1 ≤ 4000 ∧ n ≤ 4000 ∧ k ≤ 100 ∧ d = qD (powQ b k)

theorem ok__law_power (F : FnP K "_law_power" s__law_power f fd) (T : Txt K mg aZ aO aR) (c__law_times : Cal P w K mg base 3 "_law_times" (spF K R__law_times))  : FnOk P w K mg base CX0 4 f fd ["_law_base", "_law_exponent"] (spF K R__law_power) := by
  refine fnF F sc__law_power (fun ds d h => ?_) (fun cdv A outer s H E ds d hr h => ⟨_, (pss_cons (ps_set (i := 2) sc__law_power.nd rfl (Or.inl rfl) (pe_tup (pa_cons pe_int (pa_cons pe_int pa_nil)))) (pss_cons (ps_for PassesOwn.never rfl (pi_range1 (by rfl) T.range (pa_cons (pv 1) pa_nil)) (pg_name (i := 3) sc__law_power.nd rfl (Or.inl rfl)) (pss_one (ps_set (i := 2) sc__law_power.nd rfl (Or.inl rfl) (pe_cal c__law_times hr (by rfl) (pa_cons (pv 2) (pa_cons (pv 0) pa_nil)))))) (pss_one (ps_ret (pv 2))))), ?_⟩)
  · obtain ⟨_, _, _, rfl, _⟩ := h
    rfl

  · obtain ⟨b, n, k, rfl, hb, h1, h2, h3, rfl⟩ := h
    refine ds_seq (ds_set (d := qD (1, 1)) (de_tup (da_cons de_int (da_cons de_int da_nil)) (by show 2 ≤ 100000; decide))) ?_
    refine ds_seq (ds_forAll (n := k) (dw_r1 (da_cons (de_var rfl) da_nil) (by omega)) (fun j => [some (qD b), some (.int (k : Nat)), some (qD (powQ b j)), none]) (.keep (.keep (.keep (.drop .nil)))) (fun j hj => ?_)) (ds_ret (de_var rfl))
    have s1 : n * j + 1 ≤ 4000 := by
      have : n * j ≤ n * k := Nat.mul_le_mul_left _ (by omega)
      omega
    exact ds_wk (ds_set (de_call (da_cons (de_var rfl) (da_cons (de_var rfl) da_nil)) ⟨powQ b j, b, rfl, (hb.pow j).mono s1, hb.mono h2, trivial, rfl⟩)) (.keep (.keep (.keep (.drop .nil))))
def R__law_item (ds : List PyData) (d : PyData) : Prop := ∃ (L : List Q2) (t : Nat), ds = [lD L, .int (t : Nat)] ∧ d = qD (it L t)

theorem ok__law_item (F : FnP K "_law_item" s__law_item f fd) (T : Txt K mg aZ aO aR)   : FnOk P w K mg base CX0 1 f fd ["_law_life_here", "_law_t"] (spF K R__law_item) := by
  refine fnF F sc__law_item (fun ds d h => ?_) (fun cdv A outer s H E ds d hr h => ⟨_, (pss_one (ps_ret (pe_ifExp (pt_cmpR op_lt (pv 1) (pe_callB call_len_seq (by rfl) T.len (by decide +kernel) (pa_cons (pv 0) pa_nil)) (nomark _)) (pe_ix (r := rIxT K) ix_tup (pv 0) (pv 1) (fun _ _ => rfl)) (pe_tup (pa_cons pe_int (pa_cons pe_int pa_nil)))))), ?_⟩)
  · obtain ⟨_, _, rfl, _⟩ := h
    rfl

  · obtain ⟨L, t, rfl, rfl⟩ := h
    refine ds_ret (de_if (dt_test (de_lt (de_var rfl) (de_llen (L := L) (de_var rfl)))) (fun e => ?_) (fun e => ?_))
    · have h1 := of_decide_eq_true e
      exact de_li (L := L) (n := t) (de_var rfl) (de_var rfl) rfl (by omega)
    · have h1 := of_decide_eq_false e
      refine de_is (d1 := qD (0, 1)) (de_tup (da_cons de_int (da_cons de_int da_nil)) (by show 2 ≤ 100000; decide)) ?_
      rw [it_out (by omega)]
def lratesD (L : List Q2) (n : Nat) : List PyData := (List.range n).map fun t => qD (lrate L t)
theorem lrates_succ (L : List Q2) (n : Nat) : lratesD L (n + 1) = lratesD L n ++ [qD (lrate L n)] := by
  unfold lratesD
  rw [List.range_succ, List.map_append]
  rfl
theorem lrates_len (L : List Q2) (n : Nat) : (lratesD L n).length = n := by
  unfold lratesD
  rw [List.length_map, List.length_range]
theorem le_own {K : PySem.W.Frag} {i : Nat} {ρ : Rho} {ds : List PyData} {σ : L2.St} {H : Hp} {o : Addr} (hl : LOk K σ H ρ i o) (hi : ρ[i]? = some (some (.list ds))) : ∀ Q : VK, (∀ v H', Same H H' → Dp K H' v (.list ds) → Q v H') → tVar i σ H Q := fun Q q => by
  obtain ⟨v, h1, h2⟩ := hl.ok.at_ i _ hi
  exact ⟨v, h1, q v H (Same.refl H) h2⟩
def R__law_rates (ds : List PyData) (d : PyData) : Prop := ∃ L : List Q2, ds = [lD L] ∧ Lf 50 L ∧ d = .list (lratesD L (L.length - 1))

theorem ok__law_rates (F : FnP K "_law_rates" s__law_rates f fd) (T : Txt K mg aZ aO aR) (c__law_less_one : Cal P w K mg base 1 "_law_less_one" (spF K R__law_less_one)) (c__law_ratio : Cal P w K mg base 2 "_law_ratio" (spF K R__law_ratio))  : FnOk P w K mg base CX0 3 f fd ["_law_life_here"] (spF K R__law_rates) := by
  refine fnF F sc__law_rates (fun ds d h => ?_) (fun cdv A outer s H E ds d hr h => ⟨_, (pss_cons (ps_set (i := 1) sc__law_rates.nd rfl (Or.inl rfl) (pe_lst pa_nil)) (pss_cons (ps_for PassesOwn.never rfl (pi_range1 (by rfl) T.range (pa_cons (pe_op op_sub (pe_callB call_len_seq (by rfl) T.len (by decide +kernel) (pa_cons (pv 0) pa_nil)) pe_int) pa_nil)) (pg_name (i := 2) sc__law_rates.nd rfl (Or.inl rfl)) (pss_cons (ps_par (i := 3) (j := 4) rfl sc__law_rates.nd rfl rfl (by decide) rfl rfl (pa_cons (pe_ix (r := rIxT K) ix_tup (pv 0) (pe_op op_add (pv 2) pe_int) (fun _ _ => rfl)) (pa_cons (pe_ix (r := rIxT K) ix_tup (pv 0) (pv 2) (fun _ _ => rfl)) pa_nil)) (by rfl)) (pss_one (ps_expr (pe_bm PySem.F.plainAttrs_list PySem.F.slot_list_append PySem.F.type_list_append mt_append (pv 1) (pa_cons (pe_cal c__law_less_one hr (by rfl) (pa_cons (pe_cal c__law_ratio hr (by rfl) (pa_cons (pe_op op_mulW (pe_ix (r := rIxT K) ix_tup (pv 3) pe_int (fun _ _ => rfl)) (pe_ix (r := rIxT K) ix_tup (pv 4) pe_int (fun _ _ => rfl))) (pa_cons (pe_op op_mulW (pe_ix (r := rIxT K) ix_tup (pv 3) pe_int (fun _ _ => rfl)) (pe_ix (r := rIxT K) ix_tup (pv 4) pe_int (fun _ _ => rfl))) pa_nil))) pa_nil)) pa_nil)))))) (pss_one (ps_ret (pv 1))))), ?_⟩)
  · obtain ⟨_, rfl, _⟩ := h
    rfl

  · obtain ⟨L, rfl, hL, rfl⟩ := h
    have l2 := hL.life.len2
    have l13 := hL.life.len13
    refine ds_reassoc ?_
    refine dlx_ret (i := 1) (ρ1 := [some (lD L), some (.list (lratesD L (L.length - 1))), none, none, none]) (dlx_seq (ρ1 := [some (lD L), some (.list (lratesD L 0)), none, none, none]) (dlx_set del_nil rfl (by rfl) (.keep (.keep (.keep (.keep (.keep .nil))))) rfl ⟨flat_l L, trivial, trivial, trivial, trivial⟩) ?_) (fun σ H o hl => le_own hl rfl)
    refine dl_for (n := L.length - 1) (dw_r1 (da_cons (i_is (de_sub (de_llen (L := L) (de_var rfl)) de_int) (by omega)) da_nil) (by omega)) (by decide) (fun j => [some (lD L), some (.list (lratesD L j)), none, none, none]) (Wk.refl _) rfl ⟨flat_l L, trivial, trivial, trivial, trivial⟩ (fun j hj => ?_)
    refine dl_seq (dl_par (d := qD (it L (j + 1))) (e := qD (it L j)) (da_cons (de_li (L := L) (n := j + 1) (de_var rfl) (de_add (de_var rfl) de_int) (by omega) (by omega)) (da_cons (de_li (L := L) (n := j) (de_var rfl) (de_var rfl) (by omega) (by omega)) da_nil)) (by decide) (by decide) (flat_q _) (flat_q _)) ?_
    have s1 := (hL.at_ (i := j + 1) (by omega)).mono (show 50 ≤ 4000 by decide)
    have s2 := (hL.at_ (i := j) (by omega)).mono (show 50 ≤ 4000 by decide)
    have s3 := hL.life.np j (by omega)
    refine dl_wk (dl_app (d := qD (lrate L j)) (de_call (da_cons (de_call (da_cons (de_mulW (de_q0 (q := it L (j + 1)) (de_var rfl)) (de_q1 (q := it L j) (de_var rfl)) (big_mul s1.num s2.den)) (da_cons (de_mulW (de_q1 (q := it L (j + 1)) (de_var rfl)) (de_q0 (q := it L j) (de_var rfl)) (big_mul s1.den s2.num)) da_nil)) ⟨_, _, rfl, Int.mul_pos s1.pos s3, big_den s1.den s2.num, rfl⟩) da_nil) ⟨_, rfl, rfl⟩) (flat_q _) rfl (by rw [lrates_len]; omega)) ?_ ?_ ⟨flat_l L, trivial, trivial, trivial, trivial⟩
    · rw [lrates_succ]
      exact .keep (.keep (.drop (.drop (.drop .nil))))
    · rw [lrates_succ]
      rfl
/-! what _law_not_ageing finds -/
def lfallF (L : List Q2) (t : Nat) : Bool := ltQ (lrate L (t + 1)) (lrate L t)
def naR (L : List Q2) : List PyData := ((List.range (L.length - 2)).filter (lfallF L)).map fun j => .int (0 + (j : Nat))
def naA (L : List Q2) : List PyData := ((List.range (L.length - 1)).filter (avF L)).map fun j => .int (1 + (j : Nat))
def naI (L : List Q2) (i n : Nat) : List PyData := ((List.range n).filter (nwF L (1 + i))).map fun j => .tuple [.int (1 + (i : Nat)), .int (1 + (i : Nat) + (j : Nat))]
def naN (L : List Q2) : Nat → List PyData
  | 0 => []
  | i + 1 => naN L i ++ naI L i (L.length - (1 + i))
def naM (L : List Q2) : List PyData := ((List.range L.length).filter (mnF L)).map fun j => .int (0 + (j : Nat))
theorem naI_len (L : List Q2) (i n : Nat) : (naI L i n).length ≤ n := by
  unfold naI
  rw [List.length_map]
  exact filt_len
theorem naN_len (L : List Q2) : ∀ i, (naN L i).length ≤ i * L.length
  | 0 => Nat.zero_le _
  | i + 1 => by
    have h1 := naN_len L i
    have h2 := naI_len L i (L.length - (1 + i))
    rw [naN, List.length_append, Nat.succ_mul]
    omega
theorem ints_flatD {α : Type} (g : α → Int) (l : List α) : flatDs (l.map fun j => PyData.int (g j)) = true := by
  induction l with
  | nil => rfl
  | cons x l ih =>
    rw [List.map_cons, flatDs, Bool.and_eq_true]
    exact ⟨rfl, ih⟩
def wrd (w : Str) (L : List Q2) (d : PyData) : Prop := (w = "rates" ∧ d = (naR L).headD .none) ∨ (w = "average" ∧ d = (naA L).headD .none) ∨ (w = "new" ∧ d = (naN L (L.length - 1)).headD .none) ∨ (w = "mean" ∧ d = (naM L).headD .none)
theorem lrate_sz {L : List Q2} (h : Lf 50 L) {t : Nat} (e : t + 1 < L.length) : Sz 4000 (lrate L t) := by
  have s := h.div_sz (i := t + 1) (t := t) e e
  exact ⟨s.pos, Nat.lt_of_lt_of_le (sub_lt s.den s.num (Nat.le_refl _) (Nat.le_refl _)) (pow_le (by decide)), Nat.lt_of_lt_of_le s.den (pow_le (by decide))⟩
section
variable {ρ : Rho} {ta tb : TE}
theorem de_eqT {x : Str} (ha : DE K ta ρ (.str x)) (hb : DE K tb ρ (.str x)) : DE K (tOp rEq ta tb) ρ (.bool true) := de_is (de_eq ha hb sc_str) (by rw [beq_self_eq_true])
theorem de_eqF {x y : Str} (ha : DE K ta ρ (.str x)) (hb : DE K tb ρ (.str y)) (h : (x == y) = false) : DE K (tOp rEq ta tb) ρ (.bool false) := de_is (de_eq ha hb sc_str) (by rw [h])
end
theorem lr_at {L : List Q2} {n j : Nat} {i : Int} (hj : j < n) (e : i = (j : Nat)) : atI (lratesD L n) i = some (qD (lrate L j)) := by
  rw [e]
  refine atI_nat ?_
  unfold lratesD
  rw [List.getElem?_map, List.getElem?_range hj]
  rfl
theorem naI_yes {L : List Q2} {i j : Nat} (e : nwF L (1 + i) j = true) : naI L i (j + 1) = naI L i j ++ [.tuple [.int (1 + (i : Nat)), .int (1 + (i : Nat) + (j : Nat))]] := by
  unfold naI
  rw [filt_succ, e, if_pos rfl, List.map_append]
  rfl
theorem naI_no {L : List Q2} {i j : Nat} (e : nwF L (1 + i) j = false) : naI L i (j + 1) = naI L i j := by
  unfold naI
  rw [filt_succ, e, if_neg Bool.false_ne_true, List.append_nil]
def R__law_not_ageing (ds : List PyData) (d : PyData) : Prop := ∃ (L : List Q2) (w : Str), ds = [lD L, .str w] ∧ Lf 50 L ∧ wrd w L d

theorem ok__law_not_ageing (F : FnP K "_law_not_ageing" s__law_not_ageing f fd) (T : Txt K mg aZ aO aR) (c__law_sum : Cal P w K mg base 4 "_law_sum" (spF K R__law_sum)) (c__law_rates : Cal P w K mg base 3 "_law_rates" (spF K R__law_rates)) (c__law_less : Cal P w K mg base 1 "_law_less" (spF K R__law_less)) (c__law_power : Cal P w K mg base 4 "_law_power" (spF K R__law_power)) (c__law_item : Cal P w K mg base 1 "_law_item" (spF K R__law_item)) (c__law_times : Cal P w K mg base 3 "_law_times" (spF K R__law_times))  : FnOk P w K mg base CX0 5 f fd ["_law_life_here", "_law_word"] (spF K R__law_not_ageing) := by
  refine fnF F sc__law_not_ageing (fun ds d h => ?_) (fun cdv A outer s H E ds d hr h => ⟨_, (pss_cons (ps_asg (pe_tup (pa_cons (pe_callB call_len_seq (by rfl) T.len (by decide +kernel) (pa_cons (pv 0) pa_nil)) (pa_cons (pe_cal c__law_sum hr (by rfl) (pa_cons (pv 0) pa_nil)) pa_nil))) (pg_tup rfl (pgs_cons (pg_name (i := 2) sc__law_not_ageing.nd rfl (Or.inl rfl)) (pgs_cons (pg_name (i := 3) sc__law_not_ageing.nd rfl (Or.inr rfl)) pgs_nil)))) (pss_cons (ps_if (pt_cmpR op_eq (pv 1) pe_str (nomark _)) (pss_cons (ps_set (i := 4) sc__law_not_ageing.nd rfl (Or.inr rfl) (pe_cal c__law_rates hr (by rfl) (pa_cons (pv 0) pa_nil))) (pss_one (ps_setLc (i := 6) (own := [("_law_t", 5)]) (g := gName 5) rfl sc__law_not_ageing.nd rfl rfl (sw_true rfl rfl rfl (by decide +kernel)) (pi_range1 (by rfl) T.range (pa_cons (pe_op op_sub (pe_callB call_len_seq (by rfl) T.len (by decide +kernel) (pa_cons (pv 4) pa_nil)) pe_int) pa_nil)) (blkOk_by (N := N__law_not_ageing) (sc := defScope s__law_not_ageing) (by decide +kernel)) (fun _ _ _ _ _ => pg_name (i := 5) sc__law_not_ageing.nd rfl (Or.inl rfl)) (fun _ _ _ _ _ => (pts_one (pt_val (pe_cal c__law_less hr (by rfl) (pa_cons (pe_ix (r := rIxL K) ix_list (pv 4) (pe_op op_add (pv 5) pe_int) (fun _ _ => rfl)) (pa_cons (pe_ix (r := rIxL K) ix_list (pv 4) (pv 5) (fun _ _ => rfl)) pa_nil)))))) (fun _ _ _ _ _ => (pv 5))))) (pss_one (ps_if (pt_cmpR op_eq (pv 1) pe_str (nomark _)) (pss_one (ps_setLc (i := 6) (own := [("_law_t", 5)]) (g := gName 5) rfl sc__law_not_ageing.nd rfl rfl (sw_true rfl rfl rfl (by decide +kernel)) (pi_range2 (by rfl) T.range (pa_cons pe_int (pa_cons (pv 2) pa_nil))) (blkOk_by (N := N__law_not_ageing) (sc := defScope s__law_not_ageing) (by decide +kernel)) (fun _ _ _ _ _ => pg_name (i := 5) sc__law_not_ageing.nd rfl (Or.inl rfl)) (fun _ _ _ _ _ => (pts_one (pt_val (pe_cal c__law_less hr (by rfl) (pa_cons (pe_cal c__law_power hr (by rfl) (pa_cons (pe_ix (r := rIxT K) ix_tup (pv 0) (pv 5) (fun _ _ => rfl)) (pa_cons (pe_op op_add (pv 5) pe_int) pa_nil))) (pa_cons (pe_cal c__law_power hr (by rfl) (pa_cons (pe_cal c__law_item hr (by rfl) (pa_cons (pv 0) (pa_cons (pe_op op_add (pv 5) pe_int) pa_nil))) (pa_cons (pv 5) pa_nil))) pa_nil)))))) (fun _ _ _ _ _ => (pv 5)))) (pss_one (ps_if (pt_cmpR op_eq (pv 1) pe_str (nomark _)) (pss_cons (ps_set (i := 6) sc__law_not_ageing.nd rfl (Or.inl rfl) (pe_lst pa_nil)) (pss_one (ps_for PassesOwn.never rfl (pi_range2 (by rfl) T.range (pa_cons pe_int (pa_cons (pv 2) pa_nil))) (pg_name (i := 7) sc__law_not_ageing.nd rfl (Or.inl rfl)) (pss_one (ps_for PassesOwn.never rfl (pi_range2 (by rfl) T.range (pa_cons (pv 7) (pa_cons (pv 2) pa_nil))) (pg_name (i := 5) sc__law_not_ageing.nd rfl (Or.inl rfl)) (pss_one (ps_if (pt_val (pe_cal c__law_less hr (by rfl) (pa_cons (pe_cal c__law_times hr (by rfl) (pa_cons (pe_ix (r := rIxT K) ix_tup (pv 0) (pv 7) (fun _ _ => rfl)) (pa_cons (pe_ix (r := rIxT K) ix_tup (pv 0) (pv 5) (fun _ _ => rfl)) pa_nil))) (pa_cons (pe_cal c__law_item hr (by rfl) (pa_cons (pv 0) (pa_cons (pe_op op_add (pv 7) (pv 5)) pa_nil))) pa_nil)))) (pss_one (ps_expr (pe_bm PySem.F.plainAttrs_list PySem.F.slot_list_append PySem.F.type_list_append mt_append (pv 6) (pa_cons (pe_tup (pa_cons (pv 7) (pa_cons (pv 5) pa_nil))) pa_nil)))) pss_nil))))))) (pss_one (ps_setLc (i := 6) (own := [("_law_t", 5)]) (g := gName 5) rfl sc__law_not_ageing.nd rfl rfl (sw_true rfl rfl rfl (by decide +kernel)) (pi_range1 (by rfl) T.range (pa_cons (pv 2) pa_nil)) (blkOk_by (N := N__law_not_ageing) (sc := defScope s__law_not_ageing) (by decide +kernel)) (fun _ _ _ _ _ => pg_name (i := 5) sc__law_not_ageing.nd rfl (Or.inl rfl)) (fun _ _ _ _ _ => (pts_one (pt_val (pe_cal c__law_less hr (by rfl) (pa_cons (pe_cal c__law_times hr (by rfl) (pa_cons (pv 3) (pa_cons (pe_ix (r := rIxT K) ix_tup (pv 0) (pv 5) (fun _ _ => rfl)) pa_nil))) (pa_cons (pe_cal c__law_sum hr (by rfl) (pa_cons (pe_slice (r := rSlA K) sl_tupA (pv 0) (po_some (pv 5)) po_none) pa_nil)) pa_nil)))))) (fun _ _ _ _ _ => (pv 5))))))))) (pss_one (ps_ret (pe_ix (r := rIxL K) ix_list (pe_op op_cat (pv 6) (pe_lst (pa_cons pe_non pa_nil))) pe_int (fun _ _ => rfl)))))), ?_⟩)
  · obtain ⟨_, _, rfl, _⟩ := h
    rfl

  · obtain ⟨L, w, rfl, hL, hw⟩ := h
    have l2 := hL.life.len2
    have l13 := hL.life.len13
    have s0 : Sz 1400 (sumQ L) := sum_ok hL (by decide) 0
    rcases hw with ⟨rfl, rfl⟩ | ⟨rfl, rfl⟩ | ⟨rfl, rfl⟩ | ⟨rfl, rfl⟩
    · refine ds_seq (ds_asgTup (de_tup (da_cons (de_llen (L := L) (de_var rfl)) (da_cons (de_call (da_cons (de_var rfl) da_nil) ⟨L, 50, rfl, hL.sz, drop_n hL (by decide) 0, rfl⟩) da_nil)) (by show 2 ≤ 100000; decide))) ?_
      refine dlx_ret (i := 6) (ρ1 := [some (lD L), some (.str "rates"), some (.int (L.length : Nat)), some (qD (sumQ L)), none, none, some (.list (naR L)), none]) (dlx_if (b := true) (dt_test (de_eqT (de_var rfl) de_str)) (fun _ => dlx_pre (ds_set (de_call (da_cons (de_var rfl) da_nil) ⟨L, rfl, hL, rfl⟩)) (dlx_set (del_lcR (n := L.length - 2) (dw_r1 (da_cons (i_is (de_sub (de_lenL (ds := (lratesD L (L.length - 1))) (de_var rfl)) de_int) (by rw [lrates_len]; omega)) da_nil) (by omega)) (by omega) (lfallF L) (fun j => .int (0 + (j : Nat))) (fun j hj => dt_B (de_call (da_cons (de_ixL (ds := (lratesD L (L.length - 1))) (d := qD (lrate L (j + 1))) (de_var rfl) (de_add (de_var rfl) de_int) (lr_at (by omega) (by omega))) (da_cons (de_ixL (ds := (lratesD L (L.length - 1))) (d := qD (lrate L j)) (de_var rfl) (de_var rfl) (lr_at (by omega) (by omega))) da_nil)) ⟨_, _, rfl, lrate_sz hL (by omega), lrate_sz hL (by omega), rfl⟩)) (fun j hj _ => de_var rfl) (fun _ _ _ => rfl)) rfl (ints_flatD _ _) (.keep (.keep (.keep (.keep (.drop (.keep (.keep (.keep .nil)))))))) rfl ⟨flat_l L, rfl, rfl, flat_q _, trivial, trivial, trivial, trivial⟩)) (fun z => Bool.noConfusion z)) (fun σ H o hl => le_head hl rfl ?_)
      · exact Nat.le_trans (by unfold naR; rw [List.length_map]; exact filt_len) (by omega)
    · refine ds_seq (ds_asgTup (de_tup (da_cons (de_llen (L := L) (de_var rfl)) (da_cons (de_call (da_cons (de_var rfl) da_nil) ⟨L, 50, rfl, hL.sz, drop_n hL (by decide) 0, rfl⟩) da_nil)) (by show 2 ≤ 100000; decide))) ?_
      refine dlx_ret (i := 6) (ρ1 := [some (lD L), some (.str "average"), some (.int (L.length : Nat)), some (qD (sumQ L)), none, none, some (.list (naA L)), none]) (dlx_if (b := false) (dt_test (de_eqF (de_var rfl) de_str (by decide +kernel))) (fun z => Bool.noConfusion z) (fun _ => dlx_if (b := true) (dt_test (de_eqT (de_var rfl) de_str)) (fun _ => dlx_set (del_lcR (n := L.length - 1) (dw_r2 (da_cons de_int (da_cons (de_var rfl) da_nil)) (by decide) (by decide) (by omega) (by omega) (by omega)) (by omega) (avF L) (fun j => .int (1 + (j : Nat))) (fun j hj => dt_B (de_call (da_cons (de_call (da_cons (de_li (L := L) (n := 1 + j) (de_var rfl) (de_var rfl) (by omega) (by omega)) (da_cons (i_is (de_add (de_var rfl) de_int) (j := ((1 + j + 1 : Nat) : Int)) (by omega)) da_nil)) ⟨_, 50, _, rfl, hL.at_ (by omega), by omega, by decide, by omega, rfl⟩) (da_cons (de_call (da_cons (de_call (da_cons (de_var rfl) (da_cons (i_is (de_add (de_var rfl) de_int) (j := ((1 + j + 1 : Nat) : Int)) (by omega)) da_nil)) ⟨L, 1 + j + 1, rfl, rfl⟩) (da_cons (i_is (de_var rfl) (j := ((1 + j : Nat) : Int)) (by omega)) da_nil)) ⟨_, 50, _, rfl, hL.it_ (by decide) _, by omega, by decide, by omega, rfl⟩) da_nil)) ⟨_, _, rfl, pow_ok hL (by omega), pow_ok hL (by omega), rfl⟩)) (fun j hj _ => de_var rfl) (fun _ _ _ => rfl)) rfl (ints_flatD _ _) (.keep (.keep (.keep (.keep (.keep (.keep (.keep (.keep .nil)))))))) rfl ⟨flat_l L, rfl, rfl, flat_q _, trivial, trivial, trivial, trivial⟩) (fun z => Bool.noConfusion z))) (fun σ H o hl => le_head hl rfl ?_)
      · exact Nat.le_trans (by unfold naA; rw [List.length_map]; exact filt_len) (by omega)
    · refine ds_seq (ds_asgTup (de_tup (da_cons (de_llen (L := L) (de_var rfl)) (da_cons (de_call (da_cons (de_var rfl) da_nil) ⟨L, 50, rfl, hL.sz, drop_n hL (by decide) 0, rfl⟩) da_nil)) (by show 2 ≤ 100000; decide))) ?_
      refine dlx_ret (i := 6) (ρ1 := [some (lD L), some (.str "new"), some (.int (L.length : Nat)), some (qD (sumQ L)), none, none, some (.list (naN L (L.length - 1))), none]) (dlx_if (b := false) (dt_test (de_eqF (de_var rfl) de_str (by decide +kernel))) (fun z => Bool.noConfusion z) (fun _ => dlx_if (b := false) (dt_test (de_eqF (de_var rfl) de_str (by decide +kernel))) (fun z => Bool.noConfusion z) (fun _ => dlx_if (b := true) (dt_test (de_eqT (de_var rfl) de_str)) (fun _ => dlx_seq (ρ1 := [some (lD L), some (.str "new"), some (.int (L.length : Nat)), some (qD (sumQ L)), none, none, some (.list (naN L 0)), none]) (dlx_set del_nil rfl (by rfl) (.keep (.keep (.keep (.keep (.keep (.keep (.keep (.keep .nil)))))))) rfl ⟨flat_l L, rfl, rfl, flat_q _, trivial, trivial, trivial, trivial⟩) ?_) (fun z => Bool.noConfusion z)))) (fun σ H o hl => le_head hl rfl ?_)
      · refine dl_for (n := L.length - 1) (dw_r2 (da_cons de_int (da_cons (de_var rfl) da_nil)) (by decide) (by decide) (by omega) (by omega) (by omega)) (by decide) (fun i => [some (lD L), some (.str "new"), some (.int (L.length : Nat)), some (qD (sumQ L)), none, none, some (.list (naN L i)), none]) (Wk.refl _) rfl ⟨flat_l L, rfl, rfl, flat_q _, trivial, trivial, trivial, trivial⟩ (fun i hi => ?_)
        have k1 := naN_len L i
        have k2 : i * L.length ≤ 13 * 13 := Nat.mul_le_mul (by omega) (by omega)
        refine dl_wk (ρ1 := [some (lD L), some (.str "new"), some (.int (L.length : Nat)), some (qD (sumQ L)), none, none, some (.list (naN L (i + 1))), some (.int (1 + (i : Nat)))]) (dl_for (n := L.length - (1 + i)) (dw_r2 (da_cons (de_var rfl) (da_cons (de_var rfl) da_nil)) (by omega) (by omega) (by omega) (by omega) (by omega)) (by decide) (fun j => [some (lD L), some (.str "new"), some (.int (L.length : Nat)), some (qD (sumQ L)), none, none, some (.list (naN L i ++ naI L i j)), some (.int (1 + (i : Nat)))]) ?_ ?_ ⟨flat_l L, rfl, rfl, flat_q _, trivial, trivial, rfl, trivial⟩ (fun j hj => ?_)) (.keep (.keep (.keep (.keep (.keep (.keep (.keep (.drop .nil)))))))) rfl ⟨flat_l L, rfl, rfl, flat_q _, trivial, trivial, trivial, trivial⟩
        · show Wk [_, _, _, _, _, _, some (.list (naN L i ++ [])), _] _
          rw [List.append_nil]
          exact .keep (.keep (.keep (.keep (.drop (.drop (.keep (.keep .nil)))))))
        · show some (some (PyData.list (naN L i ++ []))) = _
          rw [List.append_nil]
          rfl
        · have k3 := naI_len L i j
          refine dl_if (b := nwF L (1 + i) j) (dt_B (de_call (da_cons (de_call (da_cons (de_li (L := L) (n := 1 + i) (de_var rfl) (de_var rfl) (by omega) (by omega)) (da_cons (de_li (L := L) (n := 1 + i + j) (de_var rfl) (de_var rfl) (by omega) (by omega)) da_nil)) ⟨_, _, rfl, (hL.at_ (by omega)).mono (by decide), (hL.at_ (by omega)).mono (by decide), trivial, rfl⟩) (da_cons (de_call (da_cons (de_var rfl) (da_cons (i_is (de_add (de_var rfl) (de_var rfl)) (j := ((1 + i + (1 + i + j) : Nat) : Int)) (by omega)) da_nil)) ⟨L, 1 + i + (1 + i + j), rfl, rfl⟩) da_nil)) ⟨_, _, rfl, mul_ok hL _ _, (hL.it_ (by decide) _).mono (by decide), rfl⟩)) (fun e => ?_) (fun e => ?_)
          · refine dl_wk (dl_app (d := .tuple [.int (1 + (i : Nat)), .int (1 + (i : Nat) + (j : Nat))]) (de_tup (da_cons (de_var rfl) (da_cons (de_var rfl) da_nil)) (by show 2 ≤ 100000; decide)) rfl rfl (by rw [List.length_append]; omega)) ?_ ?_ ⟨flat_l L, rfl, rfl, flat_q _, trivial, trivial, rfl, trivial⟩
            · rw [naI_yes e, ← List.append_assoc]
              exact .keep (.keep (.keep (.keep (.keep (.drop (.keep (.keep .nil)))))))
            · rw [naI_yes e, ← List.append_assoc]
              rfl
          · refine dl_wk dl_next ?_ ?_ ⟨flat_l L, rfl, rfl, flat_q _, trivial, trivial, rfl, trivial⟩
            · rw [naI_no e]
              exact .keep (.keep (.keep (.keep (.keep (.drop (.keep (.keep .nil)))))))
            · rw [naI_no e]
              rfl
      · have k1 := naN_len L (L.length - 1)
        have k2 : (L.length - 1) * L.length ≤ 13 * 13 := Nat.mul_le_mul (by omega) (by omega)
        omega
    · refine ds_seq (ds_asgTup (de_tup (da_cons (de_llen (L := L) (de_var rfl)) (da_cons (de_call (da_cons (de_var rfl) da_nil) ⟨L, 50, rfl, hL.sz, drop_n hL (by decide) 0, rfl⟩) da_nil)) (by show 2 ≤ 100000; decide))) ?_
      refine dlx_ret (i := 6) (ρ1 := [some (lD L), some (.str "mean"), some (.int (L.length : Nat)), some (qD (sumQ L)), none, none, some (.list (naM L)), none]) (dlx_if (b := false) (dt_test (de_eqF (de_var rfl) de_str (by decide +kernel))) (fun z => Bool.noConfusion z) (fun _ => dlx_if (b := false) (dt_test (de_eqF (de_var rfl) de_str (by decide +kernel))) (fun z => Bool.noConfusion z) (fun _ => dlx_if (b := false) (dt_test (de_eqF (de_var rfl) de_str (by decide +kernel))) (fun z => Bool.noConfusion z) (fun _ => dlx_set (del_lcR (n := L.length) (dw_r1 (da_cons (de_var rfl) da_nil) (by omega)) (by omega) (mnF L) (fun j => .int (0 + (j : Nat))) (fun j hj => dt_B (de_call (da_cons (de_call (da_cons (de_var rfl) (da_cons (de_li (L := L) (n := j) (de_var rfl) (de_var rfl) (by omega) hj) da_nil)) ⟨_, _, rfl, s0.mono (by decide), (hL.at_ hj).mono (by decide), trivial, rfl⟩) (da_cons (de_call (da_cons (de_ldrop (L := L) (t := j) (de_var rfl) (i_is (de_var rfl) (by omega)) (by omega)) da_nil) ⟨L.drop j, 50, rfl, fun q hq => hL.sz q (List.mem_of_mem_drop hq), drop_n hL (by decide) j, rfl⟩) da_nil)) ⟨_, _, rfl, (Sz.mul s0 (hL.at_ hj)).mono (by decide), (sum_ok hL (by decide) j).mono (by decide), rfl⟩)) (fun j hj _ => de_var rfl) (fun _ _ _ => rfl)) rfl (ints_flatD _ _) (.keep (.keep (.keep (.keep (.keep (.keep (.keep (.keep .nil)))))))) rfl ⟨flat_l L, rfl, rfl, flat_q _, trivial, trivial, trivial, trivial⟩)))) (fun σ H o hl => le_head hl rfl ?_)
      · exact Nat.le_trans (by unfold naM; rw [List.length_map]; exact filt_len) (by omega)
end
end Fw
set_option maxHeartbeats 4000000
namespace Fw
open PySem PySem.Spec PyProof.Rows L2
section
variable {P : Program} {w : World} {K : PySem.W.Frag} {mg : Str → Option Value} {base : Heap} {aZ aO aR f : Addr} {fd : FuncData}

def R_leaf (ds : List PyData) (d : PyData) : Prop := ∃ a b : Bool, ds = [.bool a, .bool b] ∧ d = .bool (a == b)
def R_alike (ds : List PyData) (d : PyData) : Prop := ∃ as bs : List Bool, (ds = [.list (as.map PyData.bool), .list (bs.map PyData.bool)] ∨ ds = [.tuple (as.map PyData.bool), .tuple (bs.map PyData.bool)]) ∧ as.length = bs.length ∧ bs.length ≤ 10 ∧ d = .bool (decide (as = bs))
theorem ok_leaf (F : FnP K "_law_alike" s__law_alike f fd) (T : Txt K mg aZ aO aR) : FnOk P w K mg base CX0 1 f fd ["_law_found", "_law_due"] (spF K R_leaf) := by
  refine fnF F sc__law_alike (fun ds d h => ?_) (fun cdv A outer s H E ds d hr h => ⟨_, (pss_cons (ps_if (pt_val (pe_callB call_isiT (by rfl) T.isinstance (by decide +kernel) (pa_cons (pv 1) (pa_cons (pe_tup (pa_cons (pe_bltn (v := .ty "tuple") (u := .type "tuple") (by rfl) T.tuple (by decide +kernel) rfl) (pa_cons (pe_bltn (v := .ty "list") (u := .type "list") (by rfl) T.list (by decide +kernel) rfl) pa_nil))) pa_nil)))) (pss_cons ps_never (pss_cons ps_never (pss_one ps_never))) pss_nil) (pss_cons (ps_if (PW.pt (pw_or (pt_cmp (pc_isN (pv 1))) (pw_or1 (pt_val (pe_callB call_isi (by rfl) T.isinstance (by decide +kernel) (pa_cons (pv 1) (pa_cons (pe_bltn (v := .ty "str") (u := .type "str") (by rfl) T.str (by decide +kernel) rfl) pa_nil))))))) (pss_one (ps_ret (pe_and (pe_cmpR op_eq (pv 0) (pv 1) (nomark _)) (pe_one (pe_cmpR op_eq (pe_callB call_isi (by rfl) T.isinstance (by decide +kernel) (pa_cons (pv 0) (pa_cons (pe_bltn (v := .ty "str") (u := .type "str") (by rfl) T.str (by decide +kernel) rfl) pa_nil))) (pe_callB call_isi (by rfl) T.isinstance (by decide +kernel) (pa_cons (pv 1) (pa_cons (pe_bltn (v := .ty "str") (u := .type "str") (by rfl) T.str (by decide +kernel) rfl) pa_nil))) (nomark _)))))) pss_nil) (pss_one (ps_ret (pe_and (pe_callB call_isi (by rfl) T.isinstance (by decide +kernel) (pa_cons (pv 0) (pa_cons (pe_bltn (v := .ty "int") (u := .type "int") (by rfl) T.int (by decide +kernel) rfl) pa_nil))) (pe_and (pe_cmpR op_eq (pe_callB call_isi (by rfl) T.isinstance (by decide +kernel) (pa_cons (pv 0) (pa_cons (pe_bltn (v := .ty "bool") (u := .type "bool") (by rfl) T.bool (by decide +kernel) rfl) pa_nil))) (pe_callB call_isi (by rfl) T.isinstance (by decide +kernel) (pa_cons (pv 1) (pa_cons (pe_bltn (v := .ty "bool") (u := .type "bool") (by rfl) T.bool (by decide +kernel) rfl) pa_nil))) (nomark _)) (pe_one (pe_cmpR op_eq (pv 0) (pv 1) (nomark _))))))))), ?_⟩)
  · obtain ⟨_, _, rfl, _⟩ := h
    rfl
  · obtain ⟨a, b, rfl, rfl⟩ := h
    refine ds_seq (ds_ifF (dt_B (de_is (de_isi2 (d := .bool b) (de_var rfl) (a := false) (b := false) (kitT "bool" rfl (by decide +kernel)) (kitT "bool" rfl (by decide +kernel))) rfl)) ds_next) ?_
    refine ds_seq (ds_ifF (dt_is (dt_or (dt_B (de_isN (d := .bool b) (de_var rfl))) fun _ => dt_B (de_isi (d := .bool b) (de_var rfl) (b := false) (kitT "bool" rfl (by decide +kernel)))) rfl) ds_next) ?_
    refine ds_ret (de_is (de_andV (de_isi (d := .bool a) (de_var rfl) (b := true) (kitT "bool" rfl (by decide +kernel))) fun _ => de_andV (de_eq (de_isi (d := .bool a) (de_var rfl) (b := true) (kitT "bool" rfl (by decide +kernel))) (de_isi (d := .bool b) (de_var rfl) (b := true) (kitT "bool" rfl (by decide +kernel))) sc_bl) fun _ => de_eq (de_var rfl) (de_var rfl) sc_bl) ?_)
    cases a <;> cases b <;> rfl
def bg (l : List Bool) (j : Nat) : Bool := l.getD j false
theorem bg_at {l : List Bool} {j : Nat} {i : Int} (hj : j < l.length) (e : i = (j : Nat)) : atI (l.map PyData.bool) i = some (.bool (bg l j)) := by
  rw [e]
  refine atI_nat ?_
  unfold bg
  rw [List.getElem?_map, List.getD_eq_getElem?_getD, List.getElem?_eq_getElem hj]
  rfl
theorem ints_flat0 (l : List Nat) : (l.map fun j => PyData.int (0 + (j : Nat))).all flatS = true := by
  rw [List.all_map]
  exact List.all_eq_true.mpr fun _ _ => rfl
theorem bg_all {as bs : List Bool} (hl : as.length = bs.length) : ((List.range bs.length).filter fun j => !(bg as j == bg bs j)).isEmpty = decide (as = bs) := by
  rw [Bool.eq_iff_iff, decide_eq_true_iff, List.isEmpty_iff, List.filter_eq_nil_iff]
  constructor
  · intro h
    refine List.ext_getElem hl fun i h1 h2 => ?_
    have k := h i (List.mem_range.mpr h2)
    unfold bg at k
    rw [List.getD_eq_getElem?_getD, List.getD_eq_getElem?_getD, List.getElem?_eq_getElem h1, List.getElem?_eq_getElem h2] at k
    simpa using k
  · intro h j _
    rw [h]
    simp
theorem ok_alike (F : FnP K "_law_alike" s__law_alike f fd) (T : Txt K mg aZ aO aR) (c__law_alike : Cal P w K mg base 1 "_law_alike" (spF K R_leaf)) : FnOk P w K mg base CX0 2 f fd ["_law_found", "_law_due"] (spF K R_alike) := by
  refine fnF F sc__law_alike (fun ds d h => ?_) (fun cdv A outer s H E ds d hr h => ⟨_, (pss_cons (ps_if (pt_val (pe_callB call_isiT (by rfl) T.isinstance (by decide +kernel) (pa_cons (pv 1) (pa_cons (pe_tup (pa_cons (pe_bltn (v := .ty "tuple") (u := .type "tuple") (by rfl) T.tuple (by decide +kernel) rfl) (pa_cons (pe_bltn (v := .ty "list") (u := .type "list") (by rfl) T.list (by decide +kernel) rfl) pa_nil))) pa_nil)))) (pss_cons (ps_if (PW.pt (pw_or (pt_not (pt_val (pe_callB call_isiT (by rfl) T.isinstance (by decide +kernel) (pa_cons (pv 0) (pa_cons (pe_tup (pa_cons (pe_bltn (v := .ty "tuple") (u := .type "tuple") (by rfl) T.tuple (by decide +kernel) rfl) (pa_cons (pe_bltn (v := .ty "list") (u := .type "list") (by rfl) T.list (by decide +kernel) rfl) pa_nil))) pa_nil))))) (pw_or1 (pt_cmpR op_ne (pe_callB call_isi (by rfl) T.isinstance (by decide +kernel) (pa_cons (pv 0) (pa_cons (pe_bltn (v := .ty "list") (u := .type "list") (by rfl) T.list (by decide +kernel) rfl) pa_nil))) (pe_callB call_isi (by rfl) T.isinstance (by decide +kernel) (pa_cons (pv 1) (pa_cons (pe_bltn (v := .ty "list") (u := .type "list") (by rfl) T.list (by decide +kernel) rfl) pa_nil))) (nomark _))))) (pss_one (ps_ret pe_bl)) pss_nil) (pss_cons (ps_if (pt_cmpR op_ne (pe_callB call_len_seq (by rfl) T.len (by decide +kernel) (pa_cons (pv 0) pa_nil)) (pe_callB call_len_seq (by rfl) T.len (by decide +kernel) (pa_cons (pv 1) pa_nil)) (nomark _)) (pss_one (ps_ret pe_bl)) pss_nil) (pss_one (ps_ret (pe_cmpR (op_eqD hr.units) (pe_lc (own := [("_law_k", 2)]) (g := gName 2) rfl sc__law_alike.nd (pi_range1 (by rfl) T.range (pa_cons (pe_callB call_len_seq (by rfl) T.len (by decide +kernel) (pa_cons (pv 1) pa_nil)) pa_nil)) (blkOk_by (N := N__law_alike) (sc := defScope s__law_alike) (by decide +kernel)) (fun _ _ _ _ _ => pg_name (i := 2) sc__law_alike.nd rfl (Or.inl rfl)) (fun _ _ _ _ _ => (pts_one (pt_not (pt_val (pe_cal c__law_alike hr (by rfl) (pa_cons (pe_ix (r := rIx K) ix_seq (pv 0) (pv 2) (fun _ _ => rfl)) (pa_cons (pe_ix (r := rIx K) ix_seq (pv 1) (pv 2) (fun _ _ => rfl)) pa_nil))))))) (fun _ _ _ _ _ => (pv 2))) (pe_lst pa_nil) (nomark _)))))) pss_nil) (pss_cons ps_never (pss_one ps_never))), ?_⟩)
  · obtain ⟨_, _, rfl | rfl, _⟩ := h <;> rfl
  · obtain ⟨as, bs, h, hl, hn, rfl⟩ := h
    rcases h with rfl | rfl
    · refine ds_rt (ds_ifT (dt_B (de_is (de_isi2 (d := .list (bs.map PyData.bool)) (de_var rfl) (a := false) (b := true) (kitT "list" rfl (by decide +kernel)) (kitT "list" rfl (by decide +kernel))) rfl)) ?_)
      refine ds_seq (ds_ifF (dt_is (dt_or (dt_not (dt_B (de_is (de_isi2 (d := .list (as.map PyData.bool)) (de_var rfl) (a := false) (b := true) (kitT "list" rfl (by decide +kernel)) (kitT "list" rfl (by decide +kernel))) rfl))) fun _ => dt_test (de_ne (de_isi (d := .list (as.map PyData.bool)) (de_var rfl) (b := true) (kitT "list" rfl (by decide +kernel))) (de_isi (d := .list (bs.map PyData.bool)) (de_var rfl) (b := true) (kitT "list" rfl (by decide +kernel))) sc_bl)) rfl) ds_next) ?_
      refine ds_seq (ds_ifF (dt_test (de_is (de_ne (de_lenL (ds := as.map PyData.bool) (de_var rfl)) (de_lenL (ds := bs.map PyData.bool) (de_var rfl)) sc_int) ?_)) ds_next) ?_
      · rw [List.length_map, List.length_map, hl, decide_eq_true rfl]
        rfl
      refine ds_ret (de_eqD (de_lcR (n := bs.length) (dw_r1 (da_cons (de_is (de_lenL (ds := bs.map PyData.bool) (de_var rfl)) (by rw [List.length_map])) da_nil) (by omega)) (by omega) (fun j => !(bg as j == bg bs j)) (fun j => .int (0 + (j : Nat))) (fun j hj => ?_) (fun j hj _ => de_var rfl) (fun _ _ _ => rfl)) (de_lst da_nil (Nat.zero_le _)) (shaped_flat (ints_flat0 _)) (shaped_flat (ds := []) rfl) ?_)
      · refine dt_not (dt_B (de_call (da_cons (de_ixSL (ds := as.map PyData.bool) (d := .bool (bg as j)) (de_var rfl) (de_var rfl) (bg_at (by omega) (by omega))) (da_cons (de_ixSL (ds := bs.map PyData.bool) (d := .bool (bg bs j)) (de_var rfl) (de_var rfl) (bg_at (by omega) (by omega))) da_nil)) ⟨_, _, rfl, rfl⟩))
      · rw [eqv_nil, List.isEmpty_map]
        exact bg_all hl
    · refine ds_rt (ds_ifT (dt_B (de_is (de_isi2 (d := .tuple (bs.map PyData.bool)) (de_var rfl) (a := true) (b := false) (kitT "tuple" rfl (by decide +kernel)) (kitT "tuple" rfl (by decide +kernel))) rfl)) ?_)
      refine ds_seq (ds_ifF (dt_is (dt_or (dt_not (dt_B (de_is (de_isi2 (d := .tuple (as.map PyData.bool)) (de_var rfl) (a := true) (b := false) (kitT "tuple" rfl (by decide +kernel)) (kitT "tuple" rfl (by decide +kernel))) rfl))) fun _ => dt_test (de_ne (de_isi (d := .tuple (as.map PyData.bool)) (de_var rfl) (b := false) (kitT "tuple" rfl (by decide +kernel))) (de_isi (d := .tuple (bs.map PyData.bool)) (de_var rfl) (b := false) (kitT "tuple" rfl (by decide +kernel))) sc_bl)) rfl) ds_next) ?_
      refine ds_seq (ds_ifF (dt_test (de_is (de_ne (de_lenT (ds := as.map PyData.bool) (de_var rfl)) (de_lenT (ds := bs.map PyData.bool) (de_var rfl)) sc_int) ?_)) ds_next) ?_
      · rw [List.length_map, List.length_map, hl, decide_eq_true rfl]
        rfl
      refine ds_ret (de_eqD (de_lcR (n := bs.length) (dw_r1 (da_cons (de_is (de_lenT (ds := bs.map PyData.bool) (de_var rfl)) (by rw [List.length_map])) da_nil) (by omega)) (by omega) (fun j => !(bg as j == bg bs j)) (fun j => .int (0 + (j : Nat))) (fun j hj => ?_) (fun j hj _ => de_var rfl) (fun _ _ _ => rfl)) (de_lst da_nil (Nat.zero_le _)) (shaped_flat (ints_flat0 _)) (shaped_flat (ds := []) rfl) ?_)
      · refine dt_not (dt_B (de_call (da_cons (de_ixST (ds := as.map PyData.bool) (d := .bool (bg as j)) (de_var rfl) (de_var rfl) (bg_at (by omega) (by omega))) (da_cons (de_ixST (ds := bs.map PyData.bool) (d := .bool (bg bs j)) (de_var rfl) (de_var rfl) (bg_at (by omega) (by omega))) da_nil)) ⟨_, _, rfl, rfl⟩))
      · rw [eqv_nil, List.isEmpty_map]
        exact bg_all hl
end
end Fw
set_option maxHeartbeats 4000000
namespace Fw
open PySem PySem.Spec PyProof.Rows L2
section
variable {P : Program} {w : World} {K : PySem.W.Frag} {mg : Str → Option Value} {base : Heap} {aZ aO aR f : Addr} {fd : FuncData}

/-! values that leave the heap as it is -/
def VL (te : TE) (σ : L2.St) (H : Hp) (v : V) : Prop := ∀ Q : VK, Q v H → te σ H Q
section
variable {σ : L2.St} {H : Hp} {te ta tb : TE} {t u : TS} {D : Ends} {v : V} {i j : Int} {b : Bool}
theorem vl_var {n : Nat} (h : σ[n]? = some (some v)) : VL (tVar n) σ H v := fun Q q => ⟨v, h, q⟩
theorem vl_c : VL (tC v) σ H v := fun Q q => q
theorem vl_I0 {g : Int → Int → V} (ha : VL ta σ H (.int i)) (hb : VL tb σ H (.int j)) : VL (tOp (rI0 g) ta tb) σ H (g i j) := fun Q q => ha _ (hb _ ⟨i, j, rfl, rfl, q⟩)
theorem vl_I {C : Int → Int → Prop} {g : Int → Int → V} (ha : VL ta σ H (.int i)) (hb : VL tb σ H (.int j)) (hc : C i j) : VL (tOp (rI C g) ta tb) σ H (g i j) := fun Q q => ha _ (hb _ ⟨i, j, rfl, rfl, hc, q⟩)
theorem vl_ixL {p : Addr} {xs : List V} (ha : VL ta σ H (.ref p)) (hb : VL tb σ H (.int i)) (hs : SqL K H p xs) (hi : atI xs i = some v) : VL (tOp (rIxL K) ta tb) σ H v := fun Q q => ha _ (hb _ ⟨p, xs, i, v, rfl, rfl, hs, hi, q⟩)
theorem vl_int1 (ha : VL ta σ H (.int i)) : VL (tCB (fun xs H Q => (∃ i, xs = [.int i] ∧ Q (.int i) H) ∨ ∃ k, xs = [.bl k] ∧ Q (.int (if k then 1 else 0)) H) (tCons ta tNil)) σ H (.int i) := fun Q q => ha _ (.inl ⟨i, rfl, q⟩)
theorem vl_len {p : Addr} {xs : List V} (ha : VL ta σ H (.ref p)) (hs : SqL K H p xs) : VL (tCB (fun xs H Q => ∃ p ys, xs = [.ref p] ∧ (SqL K H p ys ∨ SqT K H p ys) ∧ Q (.int ys.length) H) (tCons ta tNil)) σ H (.int (xs.length : Nat)) := fun Q q => ha _ ⟨p, xs, rfl, .inl hs, q⟩
theorem vs_if (h : VL te σ H (.bl b)) (h1 : b = true → t D σ H) (h2 : b = false → u D σ H) : tIfS (tTest te) t u D σ H := h _ ⟨b, rfl, by
  cases b with
  | true => exact h1 rfl
  | false => exact h2 rfl⟩
theorem vs_set {n : Nat} (h : VL te σ H v) (q : D.nx (σ.set n (some v)) H) : tAsg te (gName n) D σ H := h _ q
theorem vs_sub {r : Addr} {xs : List V} {n : Nat} (h : VL te σ H v) (ha : VL ta σ H (.ref r)) (hb : VL tb σ H (.int i)) (hr : H r = some (.lst xs)) (hi : ixN xs.length i = some n) (q : D.nx σ (upd H r (.lst (xs.set n v)))) : tAsg te (gSub ta tb rSetL) D σ H :=
  h _ (ha _ (hb _ ⟨r, xs, i, n, rfl, rfl, hr, hi, q⟩))
theorem vs_next (h : D.nx σ H) : tNext D σ H := h
theorem vs_seq (h : t { D with nx := u D } σ H) : tSeq t u D σ H := h
theorem vs_up {r : Addr} {o o' : HO} (e : o = o') (h : t D σ (upd H r o')) : t D σ (upd H r o) := by
  rw [e]
  exact h
theorem vs_up2 {r : Addr} {o1 o o' : HO} (e : o = o') (h : t D σ (upd H r o')) : t D σ (upd (upd H r o1) r o) := by
  rw [upd_upd, e]
  exact h
theorem vs_ret (h : VL te σ H v) (q : D.rt v H) : tRet te D σ H := h _ q
end
/-! the row of draws -/
def rowL (a : Addr) (p st rs : Int) : List V := [.ref a, .int p, .int st, .int rs]
def RowO (a : Addr) (o : HO) : Prop := ∃ p st rs : Int, o = .lst (rowL a p st rs) ∧ 0 ≤ p ∧ 0 ≤ st ∧ st < 2147483647 ∧ 0 ≤ rs
theorem sq_upd {H : Hp} {a r b : Addr} {ns : List Int} {xs : List V} {o : HO} (h : SqL K H a (ns.map V.int)) (hr : H r = some (.lst (.ref b :: xs))) : SqL K (upd H r o) a (ns.map V.int) := by
  have hne : ∀ {u : HO}, H a = some u → u ≠ .lst (.ref b :: xs) → a ≠ r := fun e d => ne_of e hr d
  rcases h with (h | ⟨ob, h⟩) | h
  · refine .inl (.inl ?_)
    rw [upd_ne (hne h ?_)]
    · exact h
    · intro z
      injection z with z
      cases ns with
      | nil => cases z
      | cons n ns => cases z
  · refine .inl (.inr ⟨ob, ?_⟩)
    rw [upd_ne (hne h (by intro z; cases z))]
    exact h
  · exact .inr h
def spTaken (K : PySem.W.Frag) : Sp := fun vs H Q _ => ∃ (r a : Addr) (ns : List Int) (o : HO) (m : Int), vs = [.ref r, .int m] ∧ H r = some o ∧ RowO a o ∧ SqL K H a (ns.map V.int) ∧ 0 < m ∧ m < 1073741824 ∧ ∀ x o', 0 ≤ x → x < m → RowO a o' → Q (.int x) (upd H r o')
theorem row_at0 {a : Addr} {p st rs : Int} : atI (rowL a p st rs) 0 = some (.ref a) := rfl
theorem row_at1 {a : Addr} {p st rs : Int} : atI (rowL a p st rs) 1 = some (.int p) := rfl
theorem row_at2 {a : Addr} {p st rs : Int} : atI (rowL a p st rs) 2 = some (.int st) := rfl
theorem row_at3 {a : Addr} {p st rs : Int} : atI (rowL a p st rs) 3 = some (.int rs) := rfl
theorem int_at {ns : List Int} {i : Int} (h0 : 0 ≤ i) (h1 : i < (ns.length : Nat)) : ∃ c, atI (ns.map V.int) i = some (.int c) := by
  obtain ⟨k, rfl⟩ : ∃ k : Nat, i = (k : Int) := ⟨i.toNat, by omega⟩
  have hk : k < ns.length := by omega
  refine ⟨ns[k], atI_nat ?_⟩
  rw [List.getElem?_map, List.getElem?_eq_getElem hk]
  rfl
theorem ok__law_taken (F : FnP K "_law_taken" s__law_taken f fd) (T : Txt K mg aZ aO aR) : FnOk P w K mg base CX0 1 f fd ["_law_row", "_law_many"] (spTaken K) := by
  refine F.ok sc__law_taken (fun vs H Q E h => ?_) (fun cdv A outer s H vs Q E hr h => ⟨_, PSs.nox (pss_cons (ps_if (pt_cmpR op_gt (pe_ix (r := rIxL K) ix_list (pv 0) pe_int (fun _ _ => rfl)) pe_int (nomark _)) (pss_cons (ps_set (i := 2) sc__law_taken.nd rfl (Or.inl rfl) (pe_op op_mod (pe_callTy call_int1 (by rfl) T.int (by decide +kernel) (pa_cons (pe_ix (r := rIxL K) ix_list (pv 0) pe_int (fun _ _ => rfl)) pa_nil)) (pv 1))) (pss_cons (ps_asg (pe_op op_fdiv (pe_ix (r := rIxL K) ix_list (pv 0) pe_int (fun _ _ => rfl)) (pv 1)) (pg_sub (pv 0) pe_int set_list)) (pss_one (ps_ret (pv 2))))) pss_nil) (pss_cons (ps_asg (pe_op op_add (pe_ix (r := rIxL K) ix_list (pv 0) pe_int (fun _ _ => rfl)) pe_int) (pg_sub (pv 0) pe_int set_list)) (pss_cons (ps_if (pt_cmpR op_gt (pe_ix (r := rIxL K) ix_list (pv 0) pe_int (fun _ _ => rfl)) (pe_callB call_len_seq (by rfl) T.len (by decide +kernel) (pa_cons (pe_ix (r := rIxL K) ix_list (pv 0) pe_int (fun _ _ => rfl)) pa_nil)) (nomark _)) (pss_cons (ps_asg (pe_op op_mod (pe_callTy call_int1 (by rfl) T.int (by decide +kernel) (pa_cons (pe_op op_add (pe_op op_mul (pe_ix (r := rIxL K) ix_list (pv 0) pe_int (fun _ _ => rfl)) pe_int) pe_int) pa_nil)) pe_int) (pg_sub (pv 0) pe_int set_list)) (pss_one (ps_ret (pe_op op_mod (pe_callTy call_int1 (by rfl) T.int (by decide +kernel) (pa_cons (pe_op op_fdiv (pe_ix (r := rIxL K) ix_list (pv 0) pe_int (fun _ _ => rfl)) pe_int) pa_nil)) (pv 1))))) pss_nil) (pss_cons (ps_set (i := 3) sc__law_taken.nd rfl (Or.inl rfl) (pe_ix (r := rIxL K) ix_list (pe_ix (r := rIxL K) ix_list (pv 0) pe_int (fun _ _ => rfl)) (pe_op op_sub (pe_ix (r := rIxL K) ix_list (pv 0) pe_int (fun _ _ => rfl)) pe_int) (fun _ _ => rfl))) (pss_cons (ps_asg (pe_op op_mod (pe_callTy call_int1 (by rfl) T.int (by decide +kernel) (pa_cons (pe_op op_add (pe_op op_add (pe_op op_mul (pe_ix (r := rIxL K) ix_list (pv 0) pe_int (fun _ _ => rfl)) pe_int) (pv 3)) pe_int) pa_nil)) pe_int) (pg_sub (pv 0) pe_int set_list)) (pss_cons (ps_if (pt_cmpR op_ge (pv 3) (pe_op op_pow pe_int pe_int) (nomark _)) (pss_one (ps_asg (pe_op op_fdiv (pv 3) (pv 1)) (pg_sub (pv 0) pe_int set_list))) pss_nil) (pss_one (ps_ret (pe_op op_mod (pe_callTy call_int1 (by rfl) T.int (by decide +kernel) (pa_cons (pv 3) pa_nil)) (pv 1)))))))))), ?_⟩)
  · obtain ⟨_, _, _, _, _, rfl, _⟩ := h
    rfl
  · obtain ⟨r, a, ns, o, m, rfl, hr0, ⟨p, st, rs, rfl, hp, hs1, hs2, hrs⟩, hS, hm, hm2, q⟩ := h
    have rd : ∀ {σ : L2.St} {k : Int} {v : V}, σ[0]? = some (some (.ref r)) → atI (rowL a p st rs) k = some v → VL (tOp (rIxL K) (tVar 0) (tC (.int k))) σ H v := fun hσ hk => vl_ixL (vl_var hσ) vl_c (SqL.of hr0) hk
    have mod : ∀ x : Int, 0 ≤ x % m ∧ x % m < m := fun x => ⟨Int.emod_nonneg _ (by omega), Int.emod_lt_of_pos _ hm⟩
    have mod2 : ∀ x : Int, 0 ≤ x % 2147483647 ∧ x % 2147483647 < 2147483647 := fun x => ⟨Int.emod_nonneg _ (by decide), Int.emod_lt_of_pos _ (by decide)⟩
    refine vs_if (vl_I0 (rd rfl row_at3) vl_c) (fun e => ?_) (fun e => ?_)
    · refine vs_set (vl_I (vl_int1 (rd rfl row_at3)) (vl_var rfl) hm) ?_
      refine vs_sub (vl_I (rd rfl row_at3) (vl_var rfl) ⟨hm, hm2⟩) (vl_var rfl) vl_c hr0 rfl ?_
      exact vs_ret (vl_var rfl) (q _ _ (mod rs).1 (mod rs).2 ⟨p, st, rs / m, rfl, hp, hs1, hs2, Int.ediv_nonneg hrs (by omega)⟩)
    refine vs_sub (vl_I0 (rd rfl row_at1) vl_c) (vl_var rfl) vl_c hr0 rfl ?_
    have h1 : upd H r (.lst (rowL a (p + 1) st rs)) r = some (.lst (rowL a (p + 1) st rs)) := upd_same
    have hS1 : SqL K (upd H r (.lst (rowL a (p + 1) st rs))) a (ns.map V.int) := sq_upd hS hr0
    have rd1 : ∀ {σ : L2.St} {k : Int} {v : V}, σ[0]? = some (some (.ref r)) → atI (rowL a (p + 1) st rs) k = some v → VL (tOp (rIxL K) (tVar 0) (tC (.int k))) σ (upd H r (.lst (rowL a (p + 1) st rs))) v := fun hσ hk => vl_ixL (vl_var hσ) vl_c (SqL.of h1) hk
    refine vs_up (o' := .lst (rowL a (p + 1) st rs)) rfl ?_
    dsimp only
    refine vs_seq (vs_if (vl_I0 (rd1 rfl row_at1) (vl_len (rd1 rfl row_at0) hS1)) (fun e => ?_) (fun e => ?_))
    · refine vs_sub (vl_I (vl_int1 (vl_I0 (vl_I (rd1 rfl row_at2) vl_c (.inl ⟨by omega, by omega⟩)) vl_c)) vl_c (by decide)) (vl_var rfl) vl_c h1 rfl ?_
      refine vs_up2 (o' := .lst (rowL a (p + 1) ((st * 48271 + 11) % 2147483647) rs)) rfl ?_
      dsimp only
      refine vs_ret (vl_I (vl_int1 (vl_I (vl_ixL (vl_var rfl) vl_c (SqL.of upd_same) row_at2) vl_c ⟨by decide, by decide⟩)) (vl_var rfl) hm) (q _ _ (mod _).1 (mod _).2 ⟨p + 1, _, rs, rfl, by omega, (mod2 _).1, (mod2 _).2, hrs⟩)
    have hlen : p + 1 ≤ (ns.length : Nat) := by
      have := of_decide_eq_false e
      rw [List.length_map] at this
      omega
    obtain ⟨c, hc⟩ := int_at (ns := ns) (i := p + 1 - 1) (by omega) (by omega)
    refine vs_set (vl_ixL (rd1 rfl row_at0) (vl_I0 (rd1 rfl row_at1) vl_c) hS1 hc) ?_
    dsimp only
    refine vs_sub (vl_I (vl_int1 (vl_I0 (vl_I0 (vl_I (rd1 rfl row_at2) vl_c (.inl ⟨by omega, by omega⟩)) (vl_var rfl)) vl_c)) vl_c (by decide)) (vl_var rfl) vl_c h1 rfl ?_
    refine vs_up2 (o' := .lst (rowL a (p + 1) ((st * 48271 + c + 11) % 2147483647) rs)) rfl ?_
    dsimp only
    have h2 : upd H r (.lst (rowL a (p + 1) ((st * 48271 + c + 11) % 2147483647) rs)) r = some (.lst (rowL a (p + 1) ((st * 48271 + c + 11) % 2147483647) rs)) := upd_same
    refine vs_seq (vs_if (vl_I0 (vl_var rfl) (vl_I vl_c vl_c ⟨by decide, by decide, by decide⟩)) (fun e2 => ?_) (fun e2 => ?_))
    · have hc0 : (1000000000000000000 : Int) ≤ c := of_decide_eq_true e2
      refine vs_sub (vl_I (vl_var rfl) (vl_var rfl) ⟨hm, hm2⟩) (vl_var rfl) vl_c h2 rfl ?_
      refine vs_up2 (o' := .lst (rowL a (p + 1) ((st * 48271 + c + 11) % 2147483647) (c / m))) rfl ?_
      dsimp only
      exact vs_ret (vl_I (vl_int1 (vl_var rfl)) (vl_var rfl) hm) (q _ _ (mod _).1 (mod _).2 ⟨p + 1, _, c / m, rfl, by omega, (mod2 _).1, (mod2 _).2, Int.ediv_nonneg (by omega) (by omega)⟩)
    · refine vs_next ?_
      dsimp only
      exact vs_ret (vl_I (vl_int1 (vl_var rfl)) (vl_var rfl) hm) (q _ _ (mod _).1 (mod _).2 ⟨p + 1, _, rs, rfl, by omega, (mod2 _).1, (mod2 _).2, hrs⟩)
def spPick (K : PySem.W.Frag) : Sp := fun vs H Q _ => ∃ (r a l : Addr) (ns ts : List Int) (o : HO), vs = [.ref r, .ref l] ∧ H r = some o ∧ RowO a o ∧ SqL K H a (ns.map V.int) ∧ SqL K H l (ts.map V.int) ∧ ts ≠ [] ∧ ts.length ≤ 100 ∧ ∀ x o', x ∈ ts → RowO a o' → Q (.int x) (upd H r o')
theorem ok__law_pick (F : FnP K "_law_pick" s__law_pick f fd) (T : Txt K mg aZ aO aR) (c__law_taken : Cal P w K mg base 1 "_law_taken" (spTaken K)) : FnOk P w K mg base CX0 2 f fd ["_law_row", "_law_things"] (spPick K) := by
  refine F.ok sc__law_pick (fun vs H Q E h => ?_) (fun cdv A outer s H vs Q E hr h => ⟨_, PSs.nox (pss_one (ps_ret (pe_ix (r := rIxL K) ix_list (pv 1) (pe_cal c__law_taken hr (by rfl) (pa_cons (pv 0) (pa_cons (pe_callB call_len_seq (by rfl) T.len (by decide +kernel) (pa_cons (pv 1) pa_nil)) pa_nil))) (fun _ _ => rfl)))), ?_⟩)
  · obtain ⟨_, _, _, _, _, _, rfl, _⟩ := h
    rfl
  · obtain ⟨r, a, l, ns, ts, o, rfl, hr0, hrow, hS, hT, hne, hl, q⟩ := h
    have hpos : 0 < ts.length := List.length_pos_iff.mpr hne
    obtain ⟨p, st, rs, rfl, _⟩ := id hrow
    refine ⟨.ref l, rfl, .ref r, rfl, .ref l, rfl, l, ts.map V.int, rfl, .inl hT, ?_⟩
    rw [List.length_map]
    refine ⟨r, a, ns, _, ((ts.length : Nat) : Int), rfl, hr0, hrow, hS, by omega, by omega, fun x o' h0 h1 ho => ?_⟩
    obtain ⟨k, rfl⟩ : ∃ k : Nat, x = (k : Int) := ⟨x.toNat, by omega⟩
    have hk : k < ts.length := by omega
    refine ⟨l, ts.map V.int, (k : Int), .int ts[k], rfl, rfl, sq_upd hT hr0, atI_nat ?_, q _ _ (List.getElem_mem hk) ho⟩
    rw [List.getElem?_map, List.getElem?_eq_getElem hk]
    rfl
end
end Fw
set_option maxHeartbeats 4000000
namespace Fw
open PySem PySem.Spec PyProof.Rows L2
section
variable {P : Program} {w : World} {K : PySem.W.Frag} {mg : Str → Option Value} {base : Heap} {aZ aO aR f : Addr} {fd : FuncData}

/-- all but r is kept -/
def Kp (r : Addr) (H H' : Hp) : Prop := ∀ b ob, b ≠ r → H b = some ob → H' b = some ob
theorem Kp.refl (r : Addr) (H : Hp) : Kp r H H := fun _ _ _ h => h
theorem Kp.trans {r : Addr} {H H1 H2 : Hp} (a : Kp r H H1) (b : Kp r H1 H2) : Kp r H H2 := fun c o n h => b c o n (a c o n h)
theorem Kp.same {r : Addr} {H H' : Hp} (s : Same H H') : Kp r H H' := fun c o _ h => s c o h
theorem Kp.up {r : Addr} {H : Hp} {o : HO} : Kp r H (upd H r o) := fun c o' n h => by
  rw [upd_ne n]
  exact h
theorem sq_same {H H' : Hp} {a : Addr} {xs : List V} (s : Same H H') (h : SqL K H a xs) : SqL K H' a xs := sqL_same s h
theorem row_head {a : Addr} {o : HO} (h : RowO a o) : ∃ xs, o = .lst (.ref a :: xs) := by
  obtain ⟨p, st, rs, e, _⟩ := h
  exact ⟨_, e⟩
/-- the row stands at r, the script at a -/
structure Row (K : PySem.W.Frag) (H : Hp) (r a : Addr) (ns : List Int) : Prop where
  ex : ∃ o, H r = some o ∧ RowO a o
  sq : SqL K H a (ns.map V.int)
theorem Row.same {H H' : Hp} {r a : Addr} {ns : List Int} (h : Row K H r a ns) (s : Same H H') : Row K H' r a ns := by
  obtain ⟨o, h1, h2⟩ := h.ex
  exact ⟨⟨o, s _ _ h1, h2⟩, sqL_same s h.sq⟩
theorem Row.up {H : Hp} {r a : Addr} {ns : List Int} {o : HO} (h : Row K H r a ns) (ho : RowO a o) : Row K (upd H r o) r a ns := by
  obtain ⟨o1, h1, h2⟩ := h.ex
  obtain ⟨xs, rfl⟩ := row_head h2
  exact ⟨⟨o, upd_same, ho⟩, sq_upd h.sq h1⟩
theorem Row.mut {H : Hp} {r a p : Addr} {ns : List Int} {xs ys : List V} {o : HO} (h : Row K H r a ns) (hp : H p = some (.lst xs)) (hne : p ≠ r) (hx : xs = [] ∨ True) (ha : SqL K (upd H p o) a (ns.map V.int)) : Row K (upd H p o) r a ns := by
  obtain ⟨o1, h1, h2⟩ := h.ex
  refine ⟨⟨o1, ?_, h2⟩, ha⟩
  rw [upd_ne (fun z => hne z.symm)]
  exact h1
theorem taken_of {H : Hp} {r a : Addr} {ns : List Int} {m : Int} {Q : VK} {E : XK} (h : Row K H r a ns) (h0 : 0 < m) (h1 : m < 1073741824) (q : ∀ x o', 0 ≤ x → x < m → RowO a o' → Row K (upd H r o') r a ns → Q (.int x) (upd H r o')) : spTaken K [.ref r, .int m] H Q E := by
  obtain ⟨o, e1, e2⟩ := h.ex
  exact ⟨r, a, ns, o, m, rfl, e1, e2, h.sq, h0, h1, fun x o' x0 x1 ho => q x o' x0 x1 ho (h.up ho)⟩
def spLife (K : PySem.W.Frag) : Sp := fun vs H Q _ => ∃ (r a : Addr) (ns : List Int), vs = [.ref r, .int 12] ∧ Row K H r a ns ∧ ∀ L v H', Lf 50 L → Kp r H H' → Dp K H' v (lD L) → Q v H'
def sD (b : Int) (ts : List Int) (n : Nat) : List PyData := (List.range (n + 1)).map fun k => qD (sQ b ts k)
theorem sD_succ (b : Int) (ts : List Int) (n : Nat) : sD b ts (n + 1) = sD b ts n ++ [qD (sQ b ts (n + 1))] := by
  unfold sD
  rw [List.range_succ (n := n + 1), List.map_append]
  rfl
theorem sD_len (b : Int) (ts : List Int) (n : Nat) : (sD b ts n).length = n + 1 := by
  unfold sD
  rw [List.length_map, List.length_range]
theorem sD_last (b : Int) (ts : List Int) : ∀ n : Nat, atI (sD b ts n) (-1) = some (qD (sQ b ts n))
  | 0 => rfl
  | n + 1 => by
    rw [sD_succ]
    exact atI_last _ _
theorem sD_end (b : Int) (ts : List Int) : PyData.tuple (sD b ts ts.length ++ [qD (0, 1)]) = lD (drawn b ts) := by
  unfold sD lD drawn
  rw [List.map_append, List.map_map]
  rfl
/-- tuple(xs + [e]) -/
theorem le_cat {σ : L2.St} {H : Hp} {o : Addr} {i : Nat} {ρ : Rho} {ds : List PyData} {te : TE} {d : PyData} (hl : LOk K σ H ρ i o) (hi : ρ[i]? = some (some (.list ds))) (hn : ds.length ≤ 1000) (he : DE K te ρ d) : ∀ Q : VK, (∀ v H', Same H H' → Dp K H' v (.tuple (ds ++ [d])) → Q v H') →
    tCB (fun xs H Q => ∃ p ys, xs = [.ref p] ∧ ((SqL K H p ys ∧ ∀ l, H l = none → Q (.ref l) (upd H l (.tup ys))) ∨ (SqT K H p ys ∧ Q (.ref p) H))) (tCons (tOp rCat (tVar i) (tLst (tCons te tNil))) tNil) σ H Q := fun Q q => by
  obtain ⟨ds', acc, h1, h2, h3, h4⟩ := hl.ls
  obtain rfl : ds' = ds := by
    rw [hi] at h1
    cases h1
    rfl
  refine ⟨.ref o, hl.sl, he σ H hl.ok _ fun v H1 s1 hv => ⟨(by show 1 ≤ sizeLine; decide), fun p hp => ?_⟩⟩
  have s2 : Same H1 (upd H1 p (.lst [v])) := same_new hp
  refine ⟨o, p, acc, [v], rfl, rfl, s2 _ _ (s1 _ _ h2), upd_same, ?_, fun p2 hp2 => ?_⟩
  · show acc.length + 1 ≤ sizeLine
    have := dps_len h3
    exact Nat.le_trans (show acc.length + 1 ≤ 1001 by omega) (by decide)
  have s3 : Same (upd H1 p (.lst [v])) (upd (upd H1 p (.lst [v])) p2 (.lst (acc ++ [v]))) := same_new hp2
  refine ⟨p2, _, rfl, .inl ⟨SqL.of upd_same, fun p3 hp3 => ?_⟩⟩
  have s4 := same_new (o := HO.tup (acc ++ [v])) hp3
  exact q _ _ (((s1.trans s2).trans s3).trans s4) (.tup (SqT.of upd_same) (dps_app (dps_same (((s1.trans s2).trans s3).trans s4) _ h3) (.cons (dp_same ((s2.trans s3).trans s4) _ hv) .nil)))
theorem pick_of {H : Hp} {r a l : Addr} {ns ts : List Int} {Q : VK} {E : XK} (h : Row K H r a ns) (hl : SqL K H l (ts.map V.int)) (hne : ts ≠ []) (hn : ts.length ≤ 100) (q : ∀ x o', x ∈ ts → RowO a o' → Row K (upd H r o') r a ns → Q (.int x) (upd H r o')) : spPick K [.ref r, .ref l] H Q E := by
  obtain ⟨o, e1, e2⟩ := h.ex
  exact ⟨r, a, l, ns, ts, o, rfl, e1, e2, h.sq, hl, hne, hn, fun x o' hx ho => q x o' hx ho (h.up ho)⟩
theorem Row.kp {H H' : Hp} {r a : Addr} {ns : List Int} (hR : Row K H r a ns) (k : Kp r H H') (e : ∃ o, H' r = some o ∧ RowO a o) : Row K H' r a ns := by
  refine ⟨e, ?_⟩
  obtain ⟨o1, h1, h2⟩ := hR.ex
  obtain ⟨xs, rfl⟩ := row_head h2
  rcases hR.sq with (h | ⟨ob, h⟩) | h
  · refine .inl (.inl (k a _ (ne_of h h1 ?_) h))
    intro z
    injection z with z
    cases ns with
    | nil => cases z
    | cons n ns => cases z
  · exact .inl (.inr ⟨ob, k a _ (ne_of h h1 (by intro z; cases z)) h⟩)
  · exact .inr h
theorem t_yes2 {σ : L2.St} {H : Hp} {Q : Bool → Hp → Prop} (h : Q true H) : tYes σ H Q := h
theorem vs_sorted {σ : L2.St} {H : Hp} {m : Addr} {x2 : Int} {ts : List Int} (h3 : σ[3]? = some (some (.int x2))) (h6 : σ[6]? = some (some (.ref m))) (hs : SqL K H m (ts.map V.int)) (hl : ts.length < 64) : ∀ Q : VK, (∀ (m' : Addr) (ts' : List Int) (H' : Hp), Same H H' → SqL K H' m' (ts'.map V.int) → ts'.Perm ts → Q (.ref m') H') →
    tIf (tTest (tOp (rI0 fun i j => .bl (decide (j < i))) (tVar 3) (tC (.int 0)))) (tCB (rSorted K) (tCons (tVar 6) tNil)) (tVar 6) σ H Q := fun Q q => by
  refine ⟨.int x2, h3, x2, 0, rfl, rfl, decide (0 < x2), rfl, ?_⟩
  cases decide (0 < x2) with
  | true => exact iteT ⟨.ref m, h6, m, ts, rfl, hs, hl, fun ns' p hp _ hn => q p ns' _ (same_new hn) (SqL.of upd_same) hp⟩
  | false => exact iteF ⟨.ref m, h6, q m ts H (Same.refl H) hs (List.Perm.refl _)⟩
theorem env_one {σ : L2.St} {H : Hp} {n i : Nat} {d : PyData} {v : V} (hl : σ.length = n) (hv : σ[i]? = some (some v)) (hd : Dp K H v d) : EnvOk K σ H ((List.replicate n none).set i (some d)) := by
  refine ⟨by rw [List.length_set, List.length_replicate]; exact hl, fun j e h => ?_⟩
  by_cases hj : i = j
  · subst hj
    have hi : i < n := by
      rw [← hl]
      exact (List.getElem?_eq_some_iff.mp hv).1
    rw [List.getElem?_set_self (by rw [List.length_replicate]; exact hi)] at h
    cases h
    exact ⟨v, hv, hd⟩
  · rw [List.getElem?_set_ne hj, List.getElem?_replicate] at h
    split at h <;> cases h
def rR (b : Int) (ts : List Int) (j : Nat) : Rho := [none, none, none, none, none, some (.int b), none, some (.list (sD b ts j)), none, none]
theorem flat_rR (b : Int) (ts : List Int) (j : Nat) : FlatR 7 (rR b ts j) := ⟨trivial, trivial, trivial, trivial, trivial, rfl, trivial, trivial, trivial, trivial⟩
theorem ok__law_life (F : FnP K "_law_life" s__law_life f fd) (T : Txt K mg aZ aO aR) (c__law_pick : Cal P w K mg base 2 "_law_pick" (spPick K)) (c__law_taken : Cal P w K mg base 1 "_law_taken" (spTaken K)) (c__law_times : Cal P w K mg base 3 "_law_times" (spF K R__law_times)) (c__law_ratio : Cal P w K mg base 2 "_law_ratio" (spF K R__law_ratio)) : FnOk P w K mg base CX0 4 f fd ["_law_row", "_law_most"] (spLife K) := by
  refine F.ok sc__law_life (fun vs H Q E h => ?_) (fun cdv A outer s H vs Q E hr h => ⟨_, PSs.nox (pss_cons (ps_par3 (i := 2) (j := 3) (l := 4) rfl sc__law_life.nd rfl rfl rfl (by decide) (by decide) (by decide) rfl rfl rfl (pa_cons (pe_op op_add pe_int (pe_cal c__law_taken hr (by rfl) (pa_cons (pv 0) (pa_cons (pv 1) pa_nil)))) (pa_cons (pe_cal c__law_taken hr (by rfl) (pa_cons (pv 0) (pa_cons pe_int pa_nil))) (pa_cons (pe_lst pa_nil) pa_nil))) (by rfl)) (pss_cons (ps_set (i := 5) sc__law_life.nd rfl (Or.inr rfl) (pe_cal c__law_pick hr (by rfl) (pa_cons (pv 0) (pa_cons (pe_lst (pa_cons pe_int (pa_cons pe_int (pa_cons pe_int pa_nil)))) pa_nil)))) (pss_cons (ps_setLc (i := 6) (own := [("_law_k", 9)]) (g := gName 9) rfl sc__law_life.nd rfl rfl (sw_true rfl rfl rfl (by decide +kernel)) (pi_range1 (by rfl) T.range (pa_cons (pe_op op_sub (pv 2) pe_int) pa_nil)) (blkOk_by (N := N__law_life) (sc := defScope s__law_life) (by decide +kernel)) (fun _ _ _ _ _ => pg_name (i := 9) sc__law_life.nd rfl (Or.inl rfl)) (fun _ _ _ _ _ => pts_nil) (fun _ _ _ _ _ => (pe_cal c__law_taken hr (by rfl) (pa_cons (pv 0) (pa_cons (pv 5) pa_nil))))) (pss_cons (ps_set (i := 6) sc__law_life.nd rfl (Or.inl rfl) (pe_ifExp (pt_cmpR op_gt (pv 3) pe_int (nomark _)) (pe_callB cr_sorted (by rfl) T.sorted (by decide +kernel) (pa_cons (pv 6) pa_nil)) (pv 6))) (pss_cons (ps_set (i := 7) sc__law_life.nd rfl (Or.inl rfl) (pe_lst (pa_cons (pe_tup (pa_cons pe_int (pa_cons pe_int pa_nil))) pa_nil))) (pss_cons (ps_for PassesOwn.never rfl (pi_list (pv 6)) (pg_name (i := 8) sc__law_life.nd rfl (Or.inl rfl)) (pss_one (ps_expr (pe_bm PySem.F.plainAttrs_list PySem.F.slot_list_append PySem.F.type_list_append mt_append (pv 7) (pa_cons (pe_cal c__law_times hr (by rfl) (pa_cons (pe_ix (r := rIxL K) ix_list (pv 7) (pe_un un_neg pe_int) (fun _ _ => rfl)) (pa_cons (pe_cal c__law_ratio hr (by rfl) (pa_cons (pe_op op_sub (pv 5) (pv 8)) (pa_cons (pv 5) pa_nil))) pa_nil))) pa_nil))))) (pss_one (ps_ret (pe_callTy call_tuple_of (by rfl) T.tuple (by decide +kernel) (pa_cons (pe_op op_cat (pv 7) (pe_lst (pa_cons (pe_tup (pa_cons pe_int (pa_cons pe_int pa_nil))) pa_nil))) pa_nil)))))))))), ?_⟩)
  · obtain ⟨_, _, _, rfl, _⟩ := h
    rfl
  · obtain ⟨r, a, ns, rfl, hrow, q⟩ := h
    -- many, way, found
    refine ⟨.ref r, rfl, .int 12, rfl, ?_⟩
    dsimp only [tNil]
    refine taken_of hrow (by decide) (by decide) (fun x1 o1 x10 x11 ho1 hrow1 => ?_)
    refine ⟨1, x1, rfl, rfl, .ref r, rfl, ?_⟩
    dsimp only [tCons, tNil, tC]
    refine taken_of (m := 3) hrow1 (by decide) (by decide) (fun x2 o2 x20 x21 ho2 hrow2 => ?_)
    refine ⟨Nat.zero_le _, fun q1 hq1 => ⟨.int (1 + x1), .int x2, .ref q1, rfl, ?_⟩⟩
    have hrow3 := hrow2.same (same_new (o := HO.lst []) hq1)
    have k3 : Kp r H (upd (upd (upd H r o1) r o2) q1 (.lst [])) := (Kp.up.trans Kp.up).trans (Kp.same (same_new hq1))
    generalize upd (upd (upd H r o1) r o2) q1 (.lst []) = H3 at hrow3 k3 ⊢
    try dsimp only
    -- below
    refine ⟨.ref r, rfl, (by show 3 ≤ sizeLine; decide), fun l hl => ?_⟩
    dsimp only [tNil]
    refine pick_of (ts := [4, 6, 10]) (hrow3.same (same_new hl)) (SqL.of upd_same) (by decide) (by decide) (fun b o3 hb ho3 hrow5 => ?_)
    have k5 : Kp r H (upd (upd H3 l (.lst [.int 4, .int 6, .int 10])) r o3) := (k3.trans (Kp.same (same_new hl))).trans Kp.up
    have hrow6 : Row K (upd (upd H3 l (.lst [.int 4, .int 6, .int 10])) r o3) r a ns := hrow5
    have b0 : 0 < b ∧ b ≤ 10 := by
      have e : b = 4 ∨ b = 6 ∨ b = 10 := by simpa using hb
      omega
    show tSeq _ _ _ _ (upd (upd H3 l (.lst [.int 4, .int 6, .int 10])) r o3)
    generalize upd (upd H3 l (.lst [.int 4, .int 6, .int 10])) r o3 = H5 at hrow6 k5 ⊢
    obtain ⟨o5, r5, _⟩ := id hrow6.ex
    try dsimp only
    -- tops
    refine ⟨.int (1 + x1), rfl, 1 + x1, 1, rfl, rfl, 1 + x1 - 1, rfl, by omega, by omega, fun Dl hD => ?_⟩
    have nDr : r ≠ Dl := ne_of_none r5 hD
    refine lc_range (fun j H' => Kp r H5 H' ∧ (∃ o, H' r = some o ∧ RowO a o) ∧ ∃ ts : List Int, ts.length = j ∧ (∀ t ∈ ts, 0 ≤ t ∧ t < b) ∧ H' Dl = some (.lst (ts.map V.int))) ⟨Kp.same (same_new hD), ?_, [], rfl, (fun t ht => nomatch ht), upd_same⟩ (fun j H' hj ⟨kp, row, ts, t1, t2, t3⟩ => ?_) (fun H' ⟨kp, row, ts, t1, t2, t3⟩ => ?_)
    · obtain ⟨o, e1, e2⟩ := hrow6.ex
      exact ⟨o, by rw [upd_ne nDr]; exact e1, e2⟩
    · refine ⟨rfl, t_yes2 (iteT ⟨.ref r, rfl, .int b, rfl, ?_⟩)⟩
      dsimp only [tNil]
      refine taken_of (hrow6.kp kp row) b0.1 (by omega) (fun x o' y0 y1 ho row' => ⟨ts.map V.int, ?_, ?_, ?_, ⟨o', ?_, ho⟩, ts ++ [x], ?_, ?_, ?_⟩)
      · rw [upd_ne (fun z => nDr z.symm)]
        exact t3
      · rw [List.length_map, t1]
        exact small1000 (by omega)
      · intro c ob hc e
        rw [upd_ne (ne_of_none e hD), upd_ne hc]
        exact kp c ob hc e
      · rw [upd_ne nDr, upd_same]
      · rw [List.length_append, t1]
        rfl
      · intro t ht
        rcases List.mem_append.mp ht with h | h
        · exact t2 t h
        · have e : t = x := by simpa using h
          rw [e]
          exact ⟨y0, y1⟩
      · rw [upd_same, List.map_append]
        rfl
    have k6 : Kp r H H' := k5.trans kp
    try dsimp only
    -- sorted
    refine vs_sorted (ts := ts) rfl rfl (SqL.of t3) (by omega) _ (fun m ts' H6 s6 hm hp => ?_)
    have hT : Tops b ts' := ⟨by rw [hp.length_eq, t1]; omega, b0.1, b0.2, fun t ht => t2 t (hp.mem_iff.mp ht)⟩
    have k7 : Kp r H H6 := k6.trans (Kp.same s6)
    try dsimp only
    -- life_here
    refine ⟨(by show 2 ≤ sizeLine; decide), fun p1 hp1 => ⟨(by show 1 ≤ sizeLine; decide), fun p2 hp2 => ?_⟩⟩
    have s7 : Same H6 (upd H6 p1 (.tup [.int 1, .int 1])) := same_new hp1
    have hn : H6 p2 = none := fresh_back s7 hp2
    have s8 := s7.trans (same_new (o := HO.lst [.ref p1]) hp2)
    have hd1 : DpAll K (upd (upd H6 p1 (.tup [.int 1, .int 1])) p2 (.lst [.ref p1])) [.ref p1] (sD b ts' 0) := .cons (.tup (sqT_same (same_new hp2) (SqT.of upd_same)) (.cons (.int 1) (.cons (.int 1) .nil))) .nil
    try dsimp only
    have hp2s : upd (upd H6 p1 (.tup [.int 1, .int 1])) p2 (.lst [.ref p1]) p2 = some (.lst [.ref p1]) := upd_same
    generalize upd (upd H6 p1 (.tup [.int 1, .int 1])) p2 (.lst [.ref p1]) = H8 at s8 hd1 hp2s ⊢
    -- the loop
    have lok0 : LOk K [some (V.ref r), some (.int 12), some (.int (1 + x1)), some (.int x2), some (.ref q1), some (.int b), some (.ref m), some (.ref p2), none, none] H8 (rR b ts' 0) 7 p2 :=
      ⟨(env_one (σ := [some (V.ref r), some (.int 12), some (.int (1 + x1)), some (.int x2), some (.ref q1), some (.int b), some (.ref m), none, none, none]) (n := 10) (i := 5) (d := .int b) rfl rfl (.int b)).set (v := .ref p2) (d := .list (sD b ts' 0)) 7 (.lst (SqL.of hp2s) hd1), rfl, ⟨sD b ts' 0, _, rfl, hp2s, hd1, by unfold sD; exact flat_all fun j _ => flat_q _⟩, flat_rR b ts' 0⟩
    refine ⟨.ref m, rfl, m, rfl, ⟨_, sqL_same s8 hm⟩, for_list (xs := ts'.map V.int) (fun j σ' H' => Same H6 H' ∧ LOk K σ' H' (rR b ts' j) 7 p2) ⟨s8, lok0⟩ (fun j σ' H' _ ⟨s9, _⟩ => sqL_same s9 hm) (fun j x σ' H' hx ⟨s9, lok⟩ => ?_) (fun σ' H' ⟨s9, lok⟩ => ?_)⟩
    · have hj : j < ts'.length := by
        have := (List.getElem?_eq_some_iff.mp hx).1
        rw [List.length_map] at this
        exact this
      have ex : x = .int (ts'.getD j 0) := by
        rw [List.getElem?_map, List.getElem?_eq_getElem hj] at hx
        rw [List.getD_eq_getElem?_getD, List.getElem?_eq_getElem hj]
        exact (Option.some.inj hx).symm
      subst ex
      have hat := hT.at_ j
      have lok8 : LOk K (σ'.set 8 (some (.int (ts'.getD j 0)))) H' ((rR b ts' j).set 8 (some (.int (ts'.getD j 0)))) 7 p2 := lok.set (by decide) (.int _) rfl
      have hln := hT.len
      have h1 : Sz 4000 (sQ b ts' j) := (hT.sz j).mono (by omega)
      have h2 : Sz 4000 (red (b - ts'.getD j 0) b) := (hT.fac j).mono (by decide)
      have h3 : b.natAbs < 2 ^ 8500 := Nat.lt_of_lt_of_le (show b.natAbs < 2 ^ 4 by show b.natAbs < 16; omega) (pow_le (by decide))
      have h4 : (sD b ts' j).length < 100000 := by
        rw [sD_len]
        omega
      have w1 : Wk (rR b ts' (j + 1)) (((rR b ts' j).set 8 (some (.int (ts'.getD j 0)))).set 7 (some (.list (sD b ts' j ++ [qD (sQ b ts' (j + 1))])))) := by
        unfold rR
        rw [sD_succ]
        exact .keep (.keep (.keep (.keep (.keep (.keep (.keep (.keep (.drop (.keep .nil)))))))))
      have w2 : (rR b ts' (j + 1))[7]? = (((rR b ts' j).set 8 (some (.int (ts'.getD j 0)))).set 7 (some (.list (sD b ts' j ++ [qD (sQ b ts' (j + 1))]))))[7]? := by
        unfold rR
        rw [sD_succ]
        rfl
      exact dl_app (i := 7) (ds := sD b ts' j) (d := qD (sQ b ts' (j + 1))) (de_call (da_cons (de_ixL (ds := sD b ts' j) (de_var rfl) (de_neg de_int) (sD_last b ts' j)) (da_cons (de_call (da_cons (de_sub (de_var rfl) (de_var rfl)) (da_cons (de_var rfl) da_nil)) ⟨b - ts'.getD j 0, b, rfl, hT.low, h3, rfl⟩) da_nil)) ⟨sQ b ts' j, red (b - ts'.getD j 0) b, rfl, h1, h2, trivial, rfl⟩) (flat_q _) rfl h4 _ _ _ H6 p2 hn s9 lok8 (fun σ3 H3 s3 lok3 => ⟨s3, lok3.wk w1 w2 (flat_rR b ts' (j + 1))⟩)
    · rw [List.length_map] at lok
      refine le_cat (i := 7) (ds := sD b ts' ts'.length) (d := qD (0, 1)) lok rfl ?_ (de_tup (da_cons de_int (da_cons de_int da_nil)) (by show 2 ≤ 100000; decide)) _ (fun v H9 s10 hv => ?_)
      · have := hT.len
        rw [sD_len]
        omega
      · rw [sD_end] at hv
        exact q _ v H9 ⟨hT.life, hT.szs⟩ (k7.trans (Kp.same (s9.trans s10))) hv
end
end Fw
set_option maxHeartbeats 4000000
namespace Fw
open PySem PySem.Spec PyProof.Rows L2
section
variable {P : Program} {w : World} {K : PySem.W.Frag} {mg : Str → Option Value} {base : Heap} {aZ aO aR f : Addr} {fd : FuncData}

/-! what the answers say -/
theorem fe {n : Nat} {f : Nat → Bool} : ((List.range n).filter f).isEmpty = true ↔ ∀ j, j < n → f j = false := by
  rw [List.isEmpty_iff, List.filter_eq_nil_iff]
  constructor
  · intro h j hj
    simpa using h j (List.mem_range.mpr hj)
  · intro h j hj
    rw [h j (List.mem_range.mp hj)]
    exact Bool.false_ne_true
theorem isN_head (l : List Nat) : isN (headD l) = l.isEmpty := by
  cases l <;> rfl
theorem isN_find {n : Nat} {f : Nat → Bool} {r : Nat → PyData} (hr : ∀ m, f m = true → isN (r m) = false) : isN (((List.range n).find? f).elim .none r) = true ↔ ∀ j, j < n → f j = false := by
  cases e : (List.range n).find? f with
  | none =>
    refine ⟨fun _ => find_none e, fun _ => rfl⟩
  | some m =>
    obtain ⟨h1, h2, _⟩ := find_some e
    constructor
    · intro z
      have z2 : isN (r m) = true := z
      rw [hr m h2] at z2
      cases z2
    · intro z
      rw [z m h1] at h2
      cases h2
theorem isN_headD {l : List PyData} (h : ∀ d ∈ l, isN d = false) : isN (l.headD .none) = l.isEmpty := by
  cases l with
  | nil => rfl
  | cons d l => exact h d List.mem_cons_self
theorem below_iff {A B : List Q2} : belowB A B = true ↔ Below A B := by
  unfold belowB Below
  exact fe
variable {L : List Q2}
theorem fr_iff : isN (frD L) = true ↔ Rt L := by
  unfold frD
  rw [isN_head, fe]
  exact ⟨fun h t e => h t (by omega), fun h t e => h t (by omega)⟩
theorem av_iff : isN (avD L) = true ↔ Av L := by
  unfold avD
  rw [isN_find (fun _ _ => rfl)]
  constructor
  · intro h t e1 e2
    obtain ⟨j, rfl⟩ : ∃ j, t = 1 + j := ⟨t - 1, by omega⟩
    exact h j (by omega)
  · intro h j hj
    exact h (1 + j) (by omega) (by omega)
theorem nwI_iff {i : Nat} : nwI L i = none ↔ ∀ j, j < L.length - 2 * (1 + i) → nwF L (1 + i) j = false := by
  constructor
  · exact fun h => find_none h
  · intro h
    unfold nwI
    cases e : (List.range (L.length - 2 * (1 + i))).find? (nwF L (1 + i)) with
    | none => rfl
    | some m =>
      obtain ⟨h1, h2, _⟩ := find_some e
      rw [h m h1] at h2
      cases h2
theorem nw_iff : isN (nwD L) = true ↔ Nw L := by
  unfold nwD
  rw [isN_find (fun m hm => ?_)]
  · constructor
    · intro h s t e1 e2 e3
      obtain ⟨i, rfl⟩ : ∃ i, s = 1 + i := ⟨s - 1, by omega⟩
      obtain ⟨j, rfl⟩ : ∃ j, t = 1 + i + j := ⟨t - (1 + i), by omega⟩
      have k := h i (by omega)
      cases z : nwI L i with
      | none => exact nwI_iff.mp z j (by omega)
      | some m =>
        rw [z] at k
        cases k
    · intro h i hi
      have k : nwI L i = none := nwI_iff.mpr fun j hj => h (1 + i) (1 + i + j) (by omega) (by omega) (by omega)
      rw [k]
      rfl
  · unfold nwR
    cases z : nwI L m with
    | none =>
      rw [z] at hm
      cases hm
    | some j => rfl
theorem mn_iff : isN (mnD L) = true ↔ Mn L := by
  unfold mnD
  rw [isN_find (fun _ _ => rfl)]
  exact Iff.rfl
theorem naR_iff : isN ((naR L).headD .none) = true ↔ Rt2 L := by
  rw [isN_headD (fun d hd => ?_)]
  · unfold naR
    rw [List.isEmpty_map, fe]
    exact ⟨fun h t e => h t (by omega), fun h t e => h t (by omega)⟩
  · unfold naR at hd
    obtain ⟨j, _, rfl⟩ := List.mem_map.mp hd
    rfl
theorem naA_iff : isN ((naA L).headD .none) = true ↔ Av2 L := by
  rw [isN_headD (fun d hd => ?_)]
  · unfold naA
    rw [List.isEmpty_map, fe]
    constructor
    · intro h t e1 e2
      obtain ⟨j, rfl⟩ : ∃ j, t = 1 + j := ⟨t - 1, by omega⟩
      exact h j (by omega)
    · intro h j hj
      exact h (1 + j) (by omega) (by omega)
  · unfold naA at hd
    obtain ⟨j, _, rfl⟩ := List.mem_map.mp hd
    rfl
theorem naM_iff : isN ((naM L).headD .none) = true ↔ Mn L := by
  rw [isN_headD (fun d hd => ?_)]
  · unfold naM
    rw [List.isEmpty_map, fe]
    exact Iff.rfl
  · unfold naM at hd
    obtain ⟨j, _, rfl⟩ := List.mem_map.mp hd
    rfl
theorem naN_nil : ∀ n, naN L n = [] ↔ ∀ i, i < n → ∀ j, j < L.length - (1 + i) → nwF L (1 + i) j = false
  | 0 => ⟨fun _ i hi => absurd hi (Nat.not_lt_zero i), fun _ => rfl⟩
  | n + 1 => by
    rw [naN, List.append_eq_nil_iff, naN_nil n]
    have k : naI L n (L.length - (1 + n)) = [] ↔ ∀ j, j < L.length - (1 + n) → nwF L (1 + n) j = false := by
      unfold naI
      rw [List.map_eq_nil_iff, ← List.isEmpty_iff]
      exact fe
    rw [k]
    constructor
    · intro ⟨h1, h2⟩ i hi
      by_cases z : i = n
      · rw [z]
        exact h2
      · exact h1 i (by omega)
    · intro h
      exact ⟨fun i hi => h i (by omega), h n (by omega)⟩
theorem naN_mem : ∀ n, ∀ d ∈ naN L n, isN d = false
  | 0, d, h => nomatch h
  | n + 1, d, h => by
    rw [naN] at h
    rcases List.mem_append.mp h with h | h
    · exact naN_mem n d h
    · unfold naI at h
      obtain ⟨j, _, rfl⟩ := List.mem_map.mp h
      rfl
theorem naN_iff : isN ((naN L (L.length - 1)).headD .none) = true ↔ Nw2 L := by
  rw [isN_headD (naN_mem _), List.isEmpty_iff, naN_nil]
  constructor
  · intro h s t e1 e2 e3
    obtain ⟨i, rfl⟩ : ∃ i, s = 1 + i := ⟨s - 1, by omega⟩
    obtain ⟨j, rfl⟩ : ∃ j, t = 1 + i + j := ⟨t - (1 + i), by omega⟩
    exact h i (by omega) j (by omega)
  · intro h i hi j hj
    exact h (1 + i) (1 + i + j) (by omega) (by omega) (by omega)
def fallsB (L : List Q2) : Bool := ((List.range (L.length - 2)).filter fun j => !(belowB (left L (1 + j)) (left L j))).isEmpty
def freshB (L : List Q2) : Bool := ((List.range (L.length - 1)).filter fun t => !(belowB (left L t) L)).isEmpty
def shortB (L : List Q2) : Bool := ((List.range (L.length - 1)).filter fun t => ltQ (sumQ L) (sumQ (left L t))).isEmpty
theorem e_falls (h : Life L) : isN (frD L) = fallsB L := by
  rw [Bool.eq_iff_iff, fr_iff, falls_iff h]
  unfold fallsB
  rw [fe]
  constructor
  · intro a j hj
    have k := a (1 + j) (by omega) (by omega)
    rw [Nat.add_sub_cancel_left] at k
    rw [below_iff.mpr k]
    rfl
  · intro a t e1 e2
    obtain ⟨j, rfl⟩ : ∃ j, t = 1 + j := ⟨t - 1, by omega⟩
    have k := a j (by omega)
    rw [Nat.add_sub_cancel_left]
    exact below_iff.mp (by simpa using k)
theorem e_fresh (h : Life L) : isN (nwD L) = freshB L := by
  rw [Bool.eq_iff_iff, nw_iff, fresh_iff h]
  unfold freshB
  rw [fe]
  constructor
  · intro a j hj
    rw [below_iff.mpr (a j (by omega))]
    rfl
  · intro a t e
    exact below_iff.mp (by simpa using a t (by omega))
theorem e_short (h : Life L) : isN (mnD L) = shortB L := by
  rw [Bool.eq_iff_iff, mn_iff, short_iff h]
  unfold shortB
  rw [fe]
  exact ⟨fun a j hj => a j (by omega), fun a t e => a t (by omega)⟩
theorem e_R (h : Life L) : isN (frD L) = isN ((naR L).headD .none) := by rw [Bool.eq_iff_iff, fr_iff, naR_iff, rt2_iff h]
theorem e_A (h : Life L) : isN (avD L) = isN ((naA L).headD .none) := by rw [Bool.eq_iff_iff, av_iff, naA_iff, av2_iff h]
theorem e_N (h : Life L) : isN (nwD L) = isN ((naN L (L.length - 1)).headD .none) := by rw [Bool.eq_iff_iff, nw_iff, naN_iff, nw2_iff h]
theorem e_M : isN (mnD L) = isN ((naM L).headD .none) := by rw [Bool.eq_iff_iff, mn_iff, naM_iff]
/-! the law -/
def leftsD (L : List Q2) : List PyData := (List.range (L.length - 1)).map fun t => lD (left L t)
theorem lefts_len : (leftsD L).length = L.length - 1 := by
  unfold leftsD
  rw [List.length_map, List.length_range]
theorem lf_at {j : Nat} {i : Int} (hj : j + 1 < L.length) (e : i = (j : Nat)) : atI (leftsD L) i = some (lD (left L j)) := by
  rw [e]
  refine atI_nat ?_
  unfold leftsD
  rw [List.getElem?_map, List.getElem?_range (by omega)]
  rfl
theorem ints_flat1 {α : Type} (g : α → Int) (l : List α) : (l.map fun j => PyData.int (g j)).all flatS = true := by
  rw [List.all_map]
  exact List.all_eq_true.mpr fun _ _ => rfl
def dueD (L : List Q2) : Nat → PyData
  | 0 => .bool (isN ((naR L).headD .none))
  | 1 => .bool (isN ((naA L).headD .none))
  | 2 => .bool (isN ((naN L (L.length - 1)).headD .none))
  | _ => .bool (isN ((naM L).headD .none))
theorem g_name {i : Nat} {v : V} {σ : L2.St} {H : Hp} {Q : L2.St → Hp → Prop} (h : Q (σ.set i (some v)) H) : gName i v σ H Q := h
theorem ds_go {ts : TS} {ρ : Rho} {d : PyData} {D : Ends} {σ : L2.St} {H : Hp} (h : DS K ts ρ (.rt d)) (e : EnvOk K σ H ρ) (q : ∀ v H', Same H H' → Dp K H' v d → D.rt v H') : ts D σ H := h D σ H e q
def spLaw (K : PySem.W.Frag) : Sp := fun vs H Q _ => ∃ (a : Addr) (ns : List Int), vs = [.ref a] ∧ SqL K H a (ns.map V.int) ∧ ns.length ≤ 63 ∧ ∀ H', Q (.bl true) H'
theorem ok_law (F : FnP K "law" s_law f fd) (T : Txt K mg aZ aO aR) (c__law_life : Cal P w K mg base 4 "_law_life" (spLife K)) (c_ages : Cal P w K mg base 6 "ages" (spF K R_ages)) (c__law_alike : Cal P w K mg base 2 "_law_alike" (spF K R_alike)) (c_older : Cal P w K mg base 6 "older" (spF K R_older)) (c__law_not_ageing : Cal P w K mg base 5 "_law_not_ageing" (spF K R__law_not_ageing)) (c__law_less : Cal P w K mg base 1 "_law_less" (spF K R__law_less)) (c_is_below_ageing : Cal P w K mg base 6 "is_below_ageing" (spF K R_is_below_ageing)) (c_mean_life : Cal P w K mg base 6 "mean_life" (spF K R_mean_life)) : FnOk P w K mg base CX0 7 f fd ["_law_script"] (spLaw K) := by
  refine F.ok sc_law (fun vs H Q E h => ?_) (fun cdv A outer s H vs Q E hr h => ⟨_, PSs.nox (pss_cons (ps_set (i := 1) sc_law.nd rfl (Or.inl rfl) (pe_lst (pa_cons (pv 0) (pa_cons pe_int (pa_cons pe_int (pa_cons pe_int pa_nil)))))) (pss_cons (ps_set (i := 2) sc_law.nd rfl (Or.inr rfl) (pe_cal c__law_life hr (by rfl) (pa_cons (pv 1) (pa_cons pe_int pa_nil)))) (pss_cons (ps_set (i := 3) sc_law.nd rfl (Or.inr rfl) (pe_lc (own := [("_law_t", 9)]) (g := gName 9) rfl sc_law.nd (pi_range1 (by rfl) T.range (pa_cons (pe_op op_sub (pe_callB call_len_seq (by rfl) T.len (by decide +kernel) (pa_cons (pv 2) pa_nil)) pe_int) pa_nil)) (blkOk_by (N := N_law) (sc := defScope s_law) (by decide +kernel)) (fun _ _ _ _ _ => pg_name (i := 9) sc_law.nd rfl (Or.inl rfl)) (fun _ _ _ _ _ => pts_nil) (fun _ _ _ _ _ => (pe_cal c_older hr (by rfl) (pa_cons (pv 2) (pa_cons (pv 9) pa_nil)))))) (pss_cons (ps_set (i := 4) sc_law.nd rfl (Or.inl rfl) (pe_cal c_ages hr (by rfl) (pa_cons (pv 2) pa_nil))) (pss_cons (ps_set (i := 5) sc_law.nd rfl (Or.inl rfl) (pe_cmpR (op_eqD hr.units) (pe_lc (own := [("_law_t", 9)]) (g := gName 9) rfl sc_law.nd (pi_range2 (by rfl) T.range (pa_cons pe_int (pa_cons (pe_callB call_len_seq (by rfl) T.len (by decide +kernel) (pa_cons (pv 3) pa_nil)) pa_nil))) (blkOk_by (N := N_law) (sc := defScope s_law) (by decide +kernel)) (fun _ _ _ _ _ => pg_name (i := 9) sc_law.nd rfl (Or.inl rfl)) (fun _ _ _ _ _ => (pts_one (pt_not (pt_val (pe_cal c_is_below_ageing hr (by rfl) (pa_cons (pe_ix (r := rIxL K) ix_list (pv 3) (pv 9) (fun _ _ => rfl)) (pa_cons (pe_ix (r := rIxL K) ix_list (pv 3) (pe_op op_sub (pv 9) pe_int) (fun _ _ => rfl)) (pa_cons pe_str pa_nil)))))))) (fun _ _ _ _ _ => (pv 9))) (pe_lst pa_nil) (nomark _))) (pss_cons (ps_set (i := 6) sc_law.nd rfl (Or.inl rfl) (pe_cmpR (op_eqD hr.units) (pe_lc (own := [("_law_t", 9)]) (g := gName 9) rfl sc_law.nd (pi_range1 (by rfl) T.range (pa_cons (pe_callB call_len_seq (by rfl) T.len (by decide +kernel) (pa_cons (pv 3) pa_nil)) pa_nil)) (blkOk_by (N := N_law) (sc := defScope s_law) (by decide +kernel)) (fun _ _ _ _ _ => pg_name (i := 9) sc_law.nd rfl (Or.inl rfl)) (fun _ _ _ _ _ => (pts_one (pt_not (pt_val (pe_cal c_is_below_ageing hr (by rfl) (pa_cons (pe_ix (r := rIxL K) ix_list (pv 3) (pv 9) (fun _ _ => rfl)) (pa_cons (pv 2) (pa_cons pe_str pa_nil)))))))) (fun _ _ _ _ _ => (pv 9))) (pe_lst pa_nil) (nomark _))) (pss_cons (ps_set (i := 7) sc_law.nd rfl (Or.inl rfl) (pe_cmpR (op_eqD hr.units) (pe_lc (own := [("_law_t", 9)]) (g := gName 9) rfl sc_law.nd (pi_range1 (by rfl) T.range (pa_cons (pe_callB call_len_seq (by rfl) T.len (by decide +kernel) (pa_cons (pv 3) pa_nil)) pa_nil)) (blkOk_by (N := N_law) (sc := defScope s_law) (by decide +kernel)) (fun _ _ _ _ _ => pg_name (i := 9) sc_law.nd rfl (Or.inl rfl)) (fun _ _ _ _ _ => (pts_one (pt_val (pe_cal c__law_less hr (by rfl) (pa_cons (pe_cal c_mean_life hr (by rfl) (pa_cons (pv 2) pa_nil)) (pa_cons (pe_cal c_mean_life hr (by rfl) (pa_cons (pe_ix (r := rIxL K) ix_list (pv 3) (pv 9) (fun _ _ => rfl)) pa_nil)) pa_nil)))))) (fun _ _ _ _ _ => (pv 9))) (pe_lst pa_nil) (nomark _))) (pss_cons (ps_if (pt_not (pt_val (pe_cal c__law_alike hr (by rfl) (pa_cons (pe_lst (pa_cons (pe_ix (r := rIxT K) ix_tup (pv 4) pe_int (fun _ _ => rfl)) (pa_cons (pe_ix (r := rIxT K) ix_tup (pv 4) pe_int (fun _ _ => rfl)) (pa_cons (pe_ix (r := rIxT K) ix_tup (pv 4) pe_int (fun _ _ => rfl)) pa_nil)))) (pa_cons (pe_lst (pa_cons (pv 5) (pa_cons (pv 6) (pa_cons (pv 7) pa_nil)))) pa_nil))))) (pss_one (ps_ret pe_bl)) pss_nil) (pss_cons (ps_setLc (i := 8) (own := [("_law_word", 10)]) (g := gName 10) rfl sc_law.nd rfl rfl (sw_true rfl rfl rfl (by decide +kernel)) (pi_list (pe_lst (pa_cons pe_str (pa_cons pe_str (pa_cons pe_str (pa_cons pe_str pa_nil)))))) (blkOk_by (N := N_law) (sc := defScope s_law) (by decide +kernel)) (fun _ _ _ _ _ => pg_name (i := 10) sc_law.nd rfl (Or.inl rfl)) (fun _ _ _ _ _ => pts_nil) (fun _ _ _ _ _ => (pe_cmp (pc_isN (pe_cal c__law_not_ageing hr (by rfl) (pa_cons (pv 2) (pa_cons (pv 10) pa_nil))))))) (pss_one (ps_ret (pe_cal c__law_alike hr (by rfl) (pa_cons (pv 4) (pa_cons (pe_callTy call_tuple_of (by rfl) T.tuple (by decide +kernel) (pa_cons (pv 8) pa_nil)) pa_nil)))))))))))))), ?_⟩)
  · obtain ⟨_, _, rfl, _⟩ := h
    rfl
  · obtain ⟨a, ns, rfl, hS, hn, q⟩ := h
    refine ⟨.ref a, rfl, (by show 4 ≤ sizeLine; decide), fun r hr0 => ?_⟩
    have hrow : Row K (upd H r (.lst [.ref a, .int 0, .int 4057, .int 0])) r a ns := ⟨⟨_, upd_same, 0, 4057, 0, rfl, by decide, by decide, by decide, by decide⟩, sqL_same (same_new hr0) hS⟩
    try dsimp only
    generalize upd H r (.lst [.ref a, .int 0, .int 4057, .int 0]) = H1 at hrow ⊢
    refine ⟨.ref r, rfl, ?_⟩
    dsimp only [tCons, tNil, tC]
    refine ⟨r, a, ns, rfl, hrow, fun L v H2 hL _ hv => ?_⟩
    try dsimp only
    have l2 := hL.life.len2
    have l13 := hL.life.len13
    have m1 : Sz 4000 (sumQ L) := (sum_ok hL (by decide) 0).mono (by decide)
    refine g_name ?_
    refine ds_go (ρ := [none, none, some (lD L), none, none, none, none, none, none, none, none]) (d := .bool true) ?_ (env_one (n := 11) (i := 2) rfl rfl hv) (fun v H3 _ hd => by cases hd; exact q H3)
    refine ds_seq (ds_set (d := .list (leftsD L)) (de_lcR1 (n := L.length - 1) (dw_r1 (da_cons (i_is (de_sub (de_llen (L := L) (de_var rfl)) de_int) (by omega)) da_nil) (by omega)) (by omega) (fun t => lD (left L t)) (fun j hj => de_call (da_cons (de_var rfl) (da_cons (i_is (de_var rfl) (j := ((j : Nat) : Int)) (by omega)) da_nil)) ⟨L, j, rfl, hL, by omega, rfl⟩) (fun j hj => flat_l _))) ?_
    refine ds_seq (ds_set (de_call (da_cons (de_var rfl) da_nil) ⟨L, rfl, hL, rfl⟩)) ?_
    have len3 : ∀ {ρ : Rho} {te : TE}, DE K te ρ (.list (leftsD L)) → DE K (tCB (fun xs H Q => ∃ p ys, xs = [.ref p] ∧ (SqL K H p ys ∨ SqT K H p ys) ∧ Q (.int ys.length) H) (tCons te tNil)) ρ (.int ((L.length - 1 : Nat) : Int)) := fun h => de_lenS h (by rw [lefts_len])
    refine ds_seq (ds_set (d := .bool (fallsB L)) (de_eqD (de_lcR (n := L.length - 2) (dw_r2 (da_cons de_int (da_cons (len3 (de_var rfl)) da_nil)) (by decide) (by decide) (by omega) (by omega) (by omega)) (by omega) (fun j => !(belowB (left L (1 + j)) (left L j))) (fun j => .int (1 + (j : Nat))) (fun j hj => dt_not (dt_B (de_call (da_cons (de_ixL (ds := leftsD L) (d := lD (left L (1 + j))) (de_var rfl) (de_var rfl) (lf_at (by omega) (by omega))) (da_cons (de_ixL (ds := leftsD L) (d := lD (left L j)) (de_var rfl) (de_sub (de_var rfl) de_int) (lf_at (by omega) (by omega))) (da_cons de_str da_nil))) ⟨_, _, rfl, hL.left (by omega), hL.left (by omega), rfl⟩))) (fun j hj _ => de_var rfl) (fun _ _ _ => rfl)) (de_lst da_nil (Nat.zero_le _)) (shaped_flat (ints_flat1 _ _)) (shaped_flat (ds := []) rfl) (by rw [eqv_nil, List.isEmpty_map]; rfl))) ?_
    refine ds_seq (ds_set (d := .bool (freshB L)) (de_eqD (de_lcR (n := L.length - 1) (dw_r1 (da_cons (len3 (de_var rfl)) da_nil) (by omega)) (by omega) (fun t => !(belowB (left L t) L)) (fun j => .int (0 + (j : Nat))) (fun j hj => dt_not (dt_B (de_call (da_cons (de_ixL (ds := leftsD L) (d := lD (left L j)) (de_var rfl) (de_var rfl) (lf_at (by omega) (by omega))) (da_cons (de_var rfl) (da_cons de_str da_nil))) ⟨_, _, rfl, hL.left (by omega), hL.mono (by decide), rfl⟩))) (fun j hj _ => de_var rfl) (fun _ _ _ => rfl)) (de_lst da_nil (Nat.zero_le _)) (shaped_flat (ints_flat1 _ _)) (shaped_flat (ds := []) rfl) (by rw [eqv_nil, List.isEmpty_map]; rfl))) ?_
    refine ds_seq (ds_set (d := .bool (shortB L)) (de_eqD (de_lcR (n := L.length - 1) (dw_r1 (da_cons (len3 (de_var rfl)) da_nil) (by omega)) (by omega) (fun t => ltQ (sumQ L) (sumQ (left L t))) (fun j => .int (0 + (j : Nat))) (fun j hj => dt_B (de_call (da_cons (de_call (da_cons (de_var rfl) da_nil) ⟨L, rfl, hL.mono (by decide), rfl⟩) (da_cons (de_call (da_cons (de_ixL (ds := leftsD L) (d := lD (left L j)) (de_var rfl) (de_var rfl) (lf_at (by omega) (by omega))) da_nil) ⟨_, rfl, hL.left (by omega), rfl⟩) da_nil)) ⟨_, _, rfl, m1, (sum_ok (hL.left (by omega)) (by decide) 0).mono (by decide), rfl⟩)) (fun j hj _ => de_var rfl) (fun _ _ _ => rfl)) (de_lst da_nil (Nat.zero_le _)) (shaped_flat (ints_flat1 _ _)) (shaped_flat (ds := []) rfl) (by rw [eqv_nil, List.isEmpty_map]; rfl))) ?_
    refine ds_seq (ds_ifF (dt_is (dt_not (dt_B (de_call (da_cons (de_lst (ds := [.bool (isN (frD L)), .bool (isN (nwD L)), .bool (isN (mnD L))]) (da_cons (de_ixT (ds := [.bool (isN (frD L)), .bool (isN (avD L)), .bool (isN (nwD L)), .bool (isN (mnD L))]) (de_var rfl) de_int rfl) (da_cons (de_ixT (ds := [.bool (isN (frD L)), .bool (isN (avD L)), .bool (isN (nwD L)), .bool (isN (mnD L))]) (de_var rfl) de_int rfl) (da_cons (de_ixT (ds := [.bool (isN (frD L)), .bool (isN (avD L)), .bool (isN (nwD L)), .bool (isN (mnD L))]) (de_var rfl) de_int rfl) da_nil))) (by show 3 ≤ 100000; decide)) (da_cons (de_lst (ds := [.bool (fallsB L), .bool (freshB L), .bool (shortB L)]) (da_cons (de_var rfl) (da_cons (de_var rfl) (da_cons (de_var rfl) da_nil))) (by show 3 ≤ 100000; decide)) da_nil)) ⟨[isN (frD L), isN (nwD L), isN (mnD L)], [fallsB L, freshB L, shortB L], .inl rfl, rfl, by show 3 ≤ 10; decide, rfl⟩))) ?_) ds_next) ?_
    · rw [e_falls hL.life, e_fresh hL.life, e_short hL.life, decide_eq_true rfl]
      rfl
    refine ds_seq (ds_set (d := .list ((List.range 4).map (dueD L))) (de_is (de_lcL (ds := [.str "rates", .str "average", .str "new", .str "mean"]) (de_lst (da_cons de_str (da_cons de_str (da_cons de_str (da_cons de_str da_nil)))) (by show 4 ≤ 100000; decide)) (by show 4 ≤ 100000; decide) (fun _ => true) (dueD L) (fun _ _ _ => dt_yes) (fun j x hj _ => ?_) (fun j hj _ => ?_)) (by rw [filt_all]; rfl))) ?_
    · match j, hj with
      | 0, hj =>
        obtain rfl := (Option.some.inj hj).symm
        exact de_isN (de_call (da_cons (de_var rfl) (da_cons (de_var rfl) da_nil)) ⟨L, "rates", rfl, hL, .inl ⟨rfl, rfl⟩⟩)
      | 1, hj =>
        obtain rfl := (Option.some.inj hj).symm
        exact de_isN (de_call (da_cons (de_var rfl) (da_cons (de_var rfl) da_nil)) ⟨L, "average", rfl, hL, .inr (.inl ⟨rfl, rfl⟩)⟩)
      | 2, hj =>
        obtain rfl := (Option.some.inj hj).symm
        exact de_isN (de_call (da_cons (de_var rfl) (da_cons (de_var rfl) da_nil)) ⟨L, "new", rfl, hL, .inr (.inr (.inl ⟨rfl, rfl⟩))⟩)
      | 3, hj =>
        obtain rfl := (Option.some.inj hj).symm
        exact de_isN (de_call (da_cons (de_var rfl) (da_cons (de_var rfl) da_nil)) ⟨L, "mean", rfl, hL, .inr (.inr (.inr ⟨rfl, rfl⟩))⟩)
      | n + 4, hj => exact absurd hj (by simp)
    · match j with
      | 0 => rfl
      | 1 => rfl
      | 2 => rfl
      | n + 3 => rfl
    refine ds_ret (de_is (de_call (da_cons (de_var rfl) (da_cons (de_tupleL (de_var rfl)) da_nil)) ⟨[isN (frD L), isN (avD L), isN (nwD L), isN (mnD L)], [isN ((naR L).headD .none), isN ((naA L).headD .none), isN ((naN L (L.length - 1)).headD .none), isN ((naM L).headD .none)], .inr rfl, rfl, by show 4 ≤ 10; decide, rfl⟩) ?_)
    rw [← e_R hL.life, ← e_A hL.life, ← e_N hL.life, ← e_M, decide_eq_true rfl]
end
end Fw
set_option maxHeartbeats 0
namespace Fw
open PySem PySem.Spec PyProof.Rows L2
/-! ### the head: what the top leaves, by facts -/
def d_is_in : He.DefD := ⟨("is_in", none), "is_in", "is_in", defArgs s_is_in, defBody s_is_in, defScope s_is_in, [], []⟩
def d_gcd : He.DefD := ⟨("gcd", none), "gcd", "gcd", defArgs s_gcd, defBody s_gcd, defScope s_gcd, [], []⟩
def d_reduced : He.DefD := ⟨("reduced", none), "reduced", "reduced", defArgs s_reduced, defBody s_reduced, defScope s_reduced, [], []⟩
def d_plus : He.DefD := ⟨("plus", none), "plus", "plus", defArgs s_plus, defBody s_plus, defScope s_plus, [], []⟩
def d_minus : He.DefD := ⟨("minus", none), "minus", "minus", defArgs s_minus, defBody s_minus, defScope s_minus, [], []⟩
def d_times : He.DefD := ⟨("times", none), "times", "times", defArgs s_times, defBody s_times, defScope s_times, [], []⟩
def d_over : He.DefD := ⟨("over", none), "over", "over", defArgs s_over, defBody s_over, defScope s_over, [], []⟩
def d_is_below_numbers : He.DefD := ⟨("is_below_numbers", none), "is_below", "is_below", defArgs s_is_below_numbers, defBody s_is_below_numbers, defScope s_is_below_numbers, [], []⟩
def d_is_ratio : He.DefD := ⟨("is_ratio", none), "is_ratio", "is_ratio", defArgs s_is_ratio, defBody s_is_ratio, defScope s_is_ratio, [], []⟩
def d_is_less : He.DefD := ⟨("is_less", none), "is_less", "is_less", defArgs s_is_less, defBody s_is_less, defScope s_is_less, [], []⟩
def d_is_chance : He.DefD := ⟨("is_chance", none), "is_chance", "is_chance", defArgs s_is_chance, defBody s_is_chance, defScope s_is_chance, [], []⟩
def d_total_of : He.DefD := ⟨("total_of", none), "total_of", "total_of", defArgs s_total_of, defBody s_total_of, defScope s_total_of, [], []⟩
def d_is_life : He.DefD := ⟨("is_life", none), "is_life", "is_life", defArgs s_is_life, defBody s_is_life, defScope s_is_life, [], []⟩
def d_need_life : He.DefD := ⟨("need_life", none), "need_life", "need_life", defArgs s_need_life, defBody s_need_life, defScope s_need_life, [], []⟩
def d_mean_life : He.DefD := ⟨("mean_life", none), "mean_life", "mean_life", defArgs s_mean_life, defBody s_mean_life, defScope s_mean_life, [], []⟩
def d_rates_of : He.DefD := ⟨("rates_of", none), "rates_of", "rates_of", defArgs s_rates_of, defBody s_rates_of, defScope s_rates_of, [], []⟩
def d_older : He.DefD := ⟨("older", none), "older", "older", defArgs s_older, defBody s_older, defScope s_older, [], []⟩
def d_item : He.DefD := ⟨("item", none), "item", "item", defArgs s_item, defBody s_item, defScope s_item, [], []⟩
def d_power : He.DefD := ⟨("power", none), "power", "power", defArgs s_power, defBody s_power, defScope s_power, [], []⟩
def d_falling_rate : He.DefD := ⟨("falling_rate", none), "falling_rate", "falling_rate", defArgs s_falling_rate, defBody s_falling_rate, defScope s_falling_rate, [], []⟩
def d_falling_average : He.DefD := ⟨("falling_average", none), "falling_average", "falling_average", defArgs s_falling_average, defBody s_falling_average, defScope s_falling_average, [], []⟩
def d_better_than_new : He.DefD := ⟨("better_than_new", none), "better_than_new", "better_than_new", defArgs s_better_than_new, defBody s_better_than_new, defScope s_better_than_new, [], []⟩
def d_better_mean : He.DefD := ⟨("better_mean", none), "better_mean", "better_mean", defArgs s_better_mean, defBody s_better_mean, defScope s_better_mean, [], []⟩
def d_ages : He.DefD := ⟨("ages", none), "ages", "ages", defArgs s_ages, defBody s_ages, defScope s_ages, [], []⟩
def d_below_by : He.DefD := ⟨("below_by", none), "below_by", "below_by", defArgs s_below_by, defBody s_below_by, defScope s_below_by, [], []⟩
def d_is_below_ageing : He.DefD := ⟨("is_below_ageing", none), "is_below", "is_below", defArgs s_is_below_ageing, defBody s_is_below_ageing, defScope s_is_below_ageing, [], []⟩
def d__law_taken : He.DefD := ⟨("_law_taken", none), "_law_taken", "_law_taken", defArgs s__law_taken, defBody s__law_taken, defScope s__law_taken, [], []⟩
def d__law_pick : He.DefD := ⟨("_law_pick", none), "_law_pick", "_law_pick", defArgs s__law_pick, defBody s__law_pick, defScope s__law_pick, [], []⟩
def d__law_gcd : He.DefD := ⟨("_law_gcd", none), "_law_gcd", "_law_gcd", defArgs s__law_gcd, defBody s__law_gcd, defScope s__law_gcd, [], []⟩
def d__law_ratio : He.DefD := ⟨("_law_ratio", none), "_law_ratio", "_law_ratio", defArgs s__law_ratio, defBody s__law_ratio, defScope s__law_ratio, [], []⟩
def d__law_times : He.DefD := ⟨("_law_times", none), "_law_times", "_law_times", defArgs s__law_times, defBody s__law_times, defScope s__law_times, [], []⟩
def d__law_life : He.DefD := ⟨("_law_life", none), "_law_life", "_law_life", defArgs s__law_life, defBody s__law_life, defScope s__law_life, [], []⟩
def d__law_less : He.DefD := ⟨("_law_less", none), "_law_less", "_law_less", defArgs s__law_less, defBody s__law_less, defScope s__law_less, [], []⟩
def d__law_alike : He.DefD := ⟨("_law_alike", none), "_law_alike", "_law_alike", defArgs s__law_alike, defBody s__law_alike, defScope s__law_alike, [], []⟩
def d__law_plus : He.DefD := ⟨("_law_plus", none), "_law_plus", "_law_plus", defArgs s__law_plus, defBody s__law_plus, defScope s__law_plus, [], []⟩
def d__law_sum : He.DefD := ⟨("_law_sum", none), "_law_sum", "_law_sum", defArgs s__law_sum, defBody s__law_sum, defScope s__law_sum, [], []⟩
def d__law_less_one : He.DefD := ⟨("_law_less_one", none), "_law_less_one", "_law_less_one", defArgs s__law_less_one, defBody s__law_less_one, defScope s__law_less_one, [], []⟩
def d__law_rates : He.DefD := ⟨("_law_rates", none), "_law_rates", "_law_rates", defArgs s__law_rates, defBody s__law_rates, defScope s__law_rates, [], []⟩
def d__law_power : He.DefD := ⟨("_law_power", none), "_law_power", "_law_power", defArgs s__law_power, defBody s__law_power, defScope s__law_power, [], []⟩
def d__law_item : He.DefD := ⟨("_law_item", none), "_law_item", "_law_item", defArgs s__law_item, defBody s__law_item, defScope s__law_item, [], []⟩
def d__law_not_ageing : He.DefD := ⟨("_law_not_ageing", none), "_law_not_ageing", "_law_not_ageing", defArgs s__law_not_ageing, defBody s__law_not_ageing, defScope s__law_not_ageing, [], []⟩
def d_law : He.DefD := ⟨("law", none), "law", "law", defArgs s_law, defBody s_law, defScope s_law, [], []⟩
def fn : List He.DefD := [d_is_in, d_gcd, d_reduced, d_plus, d_minus, d_times, d_over, d_is_below_numbers, d_is_ratio, d_is_less, d_is_chance, d_total_of, d_is_life, d_need_life, d_mean_life, d_rates_of, d_older, d_item, d_power, d_falling_rate, d_falling_average, d_better_than_new, d_better_mean, d_ages, d_below_by, d_is_below_ageing, d__law_taken, d__law_pick, d__law_gcd, d__law_ratio, d__law_times, d__law_life, d__law_less, d__law_alike, d__law_plus, d__law_sum, d__law_less_one, d__law_rates, d__law_power, d__law_item, d__law_not_ageing, d_law]
def fa : List He.Fa := [.glo "is_in", .glo "gcd", .glo "reduced", .glo "plus", .glo "minus", .glo "times", .glo "over", .glo "is_below_numbers", .glo "is_ratio", .glo "is_less", .glo "is_chance", .glo "total_of", .glo "is_life", .glo "need_life", .glo "mean_life", .glo "rates_of", .glo "older", .glo "item", .glo "power", .glo "falling_rate", .glo "falling_average", .glo "better_than_new", .glo "better_mean", .glo "ages", .glo "below_by", .glo "is_below_ageing", .glo "_law_taken", .glo "_law_pick", .glo "_law_gcd", .glo "_law_ratio", .glo "_law_times", .glo "_law_life", .glo "_law_less", .glo "_law_alike", .glo "_law_plus", .glo "_law_sum", .glo "_law_less_one", .glo "_law_rates", .glo "_law_power", .glo "_law_item", .glo "_law_not_ageing", .glo "law", .free "len", .free "range", .free "isinstance", .free "int", .free "bool", .free "str", .free "tuple", .free "list", .free "abs", .free "sorted", .int "MOST_ITEMS" 13, .glo "ZERO", .glo "ONE", .glo "ORDERS"]
def tabsB (K : PySem.W.Frag) : Bool := He.tupB K "ZERO" [.int 0, .int 1] && (He.tupB K "ONE" [.int 1, .int 1] && He.tupB K "ORDERS" [.str "chance", .str "rates", .str "odds"])
abbrev AlW : Type := He.AlD × Bool
def obsW (K : PySem.W.Frag) : AlW := (He.obsD fa fn K, tabsB K)
def valW : AlW := (He.valD fn, true)
def SaysW (K : PySem.W.Frag) : Prop := obsW K = valW
def obsWG (g : Addr → Option Obj) : AlW := obsW (He.frG g (He.asD g 3))
def hk : PySem.W.Hook where
  α := AlW
  obs := fun s => obsWG s.heap.get?
  val := fun _ => valW
  says := fun _ h => ∃ K : PySem.W.Frag, K.In h ∧ SaysW K
  of := fun _ _ e => ⟨_, He.frG_in, e⟩
  keeps := fun _ _ _ ⟨K, hK, c⟩ k => ⟨K, PySem.W.Frag.In.keeps hK k, c⟩
theorem SaysW.d {K : PySem.W.Frag} (c : SaysW K) : He.SaysD fa fn K := congrArg (fun z : AlW => z.1) c
theorem SaysW.t {K : PySem.W.Frag} (c : SaysW K) : tabsB K = true := congrArg (fun z : AlW => z.2) c
abbrev R : PySem.W.OpenRow := PySem.W.OpenLaw.row PySem.Challenge.rw_faultworks_k57_whole_lives_that_are_left
def ob (s : PySem.W.SharedT) : AlW := obsWG (HandSHeadRun.getT s)
theorem ob_eq (s : PySem.W.SharedT) : ob s = hk.obs s.abs := by
  have e : HandSHeadRun.getT s = s.abs.heap.get? := funext fun a => HandSHeadRun.getT_eq s a
  show obsWG (HandSHeadRun.getT s) = obsWG s.abs.heap.get?
  rw [e]
def names1 : List PySem.Str := ["FaultError", "BadNumber", "BadLife", "BadWord", "is_in", "gcd", "reduced", "plus", "minus", "times", "over", "is_below", "is_below_numbers", "is_ratio", "is_less", "ZERO", "ONE", "is_chance", "total_of", "MOST_ITEMS", "is_life", "need_life", "mean_life", "rates_of", "older", "item"]
def names2 : List PySem.Str := ["fails_of", "ORDERS", "power", "falling_rate", "falling_average", "better_than_new", "better_mean", "ages", "is_ordered", "below_by", "is_below_ageing", "_law_taken", "_law_pick", "_law_gcd", "_law_ratio", "_law_times", "_law_life", "_law_less", "_law_alike", "_law_plus", "_law_sum", "_law_less_one", "_law_rates", "_law_power", "_law_item", "_law_not_ageing"]
def names : List PySem.Str := names1 ++ names2
theorem run (w : World) : HandSHeadRun.RunEq R (PySem.W.view R.prog [59]) hk ob 3000 names w := by
  intro os
  kernel_rfl
end Fw
set_option maxHeartbeats 0
namespace Fw
open PySem PySem.Spec PyProof.Rows L2
theorem fun_ne {K : PySem.W.Frag} {x y qx qy : Str} {px py : Arguments} {bx by_ : List Stmt} {sx sy : Scope} {f g : Addr} {fd gd : FuncData} (F : FunD K x qx px bx sx [] [] f fd) (G : FunD K y qy py by_ sy [] [] g gd) (h : ¬ x = y) : f ≠ g := by
  intro e
  subst e
  obtain ⟨_, _, _, _, _, _, _, _, _, _, rfl, l1, _⟩ := F.ex
  obtain ⟨_, _, _, _, _, _, _, _, _, _, rfl, l2, _⟩ := G.ex
  rw [l1] at l2
  injection l2 with l3
  injection l3 with _ _ l4 _
  injection l4 with l5
  have l6 := congrArg FuncData.name l5
  exact h l6
theorem facts {P : Program} {w : World} {K : PySem.W.Frag} {h : Heap} {mg : Str → Option Value} {f : Addr} (X : K.In h) (G : h.Ns mainGlobals mg) (hfa : mg ("law" : Str) = some (.ref f)) (c : SaysW K) :
    ∃ fd : FuncData, (∀ (s : Shared) (v : Value), BindsTo s fd ⟨[v], []⟩ [("_law_script", v)]) ∧ ∀ base : Heap, K.In base → base.Ns mainGlobals mg → FnOk P w K mg base CX0 7 f fd ["_law_script"] (spLaw K) := by
  have cd := c.d
  have ct := c.t
  obtain ⟨t1, t2⟩ := He.ba ct
  obtain ⟨t2, t3⟩ := He.ba t2
  have T : Txt K mg (He.ga K "ZERO") (He.ga K "ONE") (He.ga K "ORDERS") := ⟨He.free_ok X G (cd.fact 42 (f := .free "len") rfl), He.free_ok X G (cd.fact 43 (f := .free "range") rfl), He.free_ok X G (cd.fact 44 (f := .free "isinstance") rfl), He.free_ok X G (cd.fact 45 (f := .free "int") rfl), He.free_ok X G (cd.fact 46 (f := .free "bool") rfl), He.free_ok X G (cd.fact 47 (f := .free "str") rfl), He.free_ok X G (cd.fact 48 (f := .free "tuple") rfl), He.free_ok X G (cd.fact 49 (f := .free "list") rfl), He.free_ok X G (cd.fact 50 (f := .free "abs") rfl), He.free_ok X G (cd.fact 51 (f := .free "sorted") rfl), He.int_ok X G (cd.fact 52 (f := .int "MOST_ITEMS" 13) rfl), He.glo_ok X G (cd.fact 53 (f := .glo "ZERO") rfl), He.glo_ok X G (cd.fact 54 (f := .glo "ONE") rfl), He.glo_ok X G (cd.fact 55 (f := .glo "ORDERS") rfl), fun H => He.tupB_ok t1 H, fun H => He.tupB_ok t2 H, fun H => He.tupB_ok t3 H⟩
  obtain ⟨fd_is_in, F0_is_in⟩ := cd.def_ 0 (d := d_is_in) rfl
  have F_is_in : FnP K "is_in" s_is_in (He.ga K "is_in") fd_is_in := F0_is_in
  have b_is_in : Binds K fd_is_in ["value", "least", "most"] [] := F_is_in.bindsN fun _ _ _ _ _ _ us hl => match us, hl with | [_, _, _], _ => rfl
  have g_is_in : mg "is_in" = some (.ref (He.ga K "is_in")) := He.glo_ok X G (cd.fact 0 (f := .glo "is_in") rfl)
  obtain ⟨fd_gcd, F0_gcd⟩ := cd.def_ 1 (d := d_gcd) rfl
  have F_gcd : FnP K "gcd" s_gcd (He.ga K "gcd") fd_gcd := F0_gcd
  have b_gcd : Binds K fd_gcd ["one", "other"] [] := F_gcd.bindsN fun _ _ _ _ _ _ us hl => match us, hl with | [_, _], _ => rfl
  have g_gcd : mg "gcd" = some (.ref (He.ga K "gcd")) := He.glo_ok X G (cd.fact 1 (f := .glo "gcd") rfl)
  obtain ⟨fd_reduced, F0_reduced⟩ := cd.def_ 2 (d := d_reduced) rfl
  have F_reduced : FnP K "reduced" s_reduced (He.ga K "reduced") fd_reduced := F0_reduced
  have b_reduced : Binds K fd_reduced ["numerator", "denominator"] [] := F_reduced.bindsN fun _ _ _ _ _ _ us hl => match us, hl with | [_, _], _ => rfl
  have g_reduced : mg "reduced" = some (.ref (He.ga K "reduced")) := He.glo_ok X G (cd.fact 2 (f := .glo "reduced") rfl)
  obtain ⟨fd_plus, F0_plus⟩ := cd.def_ 3 (d := d_plus) rfl
  have F_plus : FnP K "plus" s_plus (He.ga K "plus") fd_plus := F0_plus
  have b_plus : Binds K fd_plus ["one", "other"] [] := F_plus.bindsN fun _ _ _ _ _ _ us hl => match us, hl with | [_, _], _ => rfl
  have g_plus : mg "plus" = some (.ref (He.ga K "plus")) := He.glo_ok X G (cd.fact 3 (f := .glo "plus") rfl)
  obtain ⟨fd_minus, F0_minus⟩ := cd.def_ 4 (d := d_minus) rfl
  have F_minus : FnP K "minus" s_minus (He.ga K "minus") fd_minus := F0_minus
  have b_minus : Binds K fd_minus ["one", "other"] [] := F_minus.bindsN fun _ _ _ _ _ _ us hl => match us, hl with | [_, _], _ => rfl
  have g_minus : mg "minus" = some (.ref (He.ga K "minus")) := He.glo_ok X G (cd.fact 4 (f := .glo "minus") rfl)
  obtain ⟨fd_times, F0_times⟩ := cd.def_ 5 (d := d_times) rfl
  have F_times : FnP K "times" s_times (He.ga K "times") fd_times := F0_times
  have b_times : Binds K fd_times ["one", "other"] [] := F_times.bindsN fun _ _ _ _ _ _ us hl => match us, hl with | [_, _], _ => rfl
  have g_times : mg "times" = some (.ref (He.ga K "times")) := He.glo_ok X G (cd.fact 5 (f := .glo "times") rfl)
  obtain ⟨fd_over, F0_over⟩ := cd.def_ 6 (d := d_over) rfl
  have F_over : FnP K "over" s_over (He.ga K "over") fd_over := F0_over
  have b_over : Binds K fd_over ["one", "other"] [] := F_over.bindsN fun _ _ _ _ _ _ us hl => match us, hl with | [_, _], _ => rfl
  have g_over : mg "over" = some (.ref (He.ga K "over")) := He.glo_ok X G (cd.fact 6 (f := .glo "over") rfl)
  obtain ⟨fd_is_below_numbers, F0_is_below_numbers⟩ := cd.def_ 7 (d := d_is_below_numbers) rfl
  have F_is_below_numbers : FnP K "is_below" s_is_below_numbers (He.ga K "is_below_numbers") fd_is_below_numbers := F0_is_below_numbers
  have b_is_below_numbers : Binds K fd_is_below_numbers ["one", "other"] [] := F_is_below_numbers.bindsN fun _ _ _ _ _ _ us hl => match us, hl with | [_, _], _ => rfl
  have g_is_below_numbers : mg "is_below_numbers" = some (.ref (He.ga K "is_below_numbers")) := He.glo_ok X G (cd.fact 7 (f := .glo "is_below_numbers") rfl)
  obtain ⟨fd_is_ratio, F0_is_ratio⟩ := cd.def_ 8 (d := d_is_ratio) rfl
  have F_is_ratio : FnP K "is_ratio" s_is_ratio (He.ga K "is_ratio") fd_is_ratio := F0_is_ratio
  have b_is_ratio : Binds K fd_is_ratio ["value"] [] := F_is_ratio.bindsN fun _ _ _ _ _ _ us hl => match us, hl with | [_], _ => rfl
  have g_is_ratio : mg "is_ratio" = some (.ref (He.ga K "is_ratio")) := He.glo_ok X G (cd.fact 8 (f := .glo "is_ratio") rfl)
  obtain ⟨fd_is_less, F0_is_less⟩ := cd.def_ 9 (d := d_is_less) rfl
  have F_is_less : FnP K "is_less" s_is_less (He.ga K "is_less") fd_is_less := F0_is_less
  have b_is_less : Binds K fd_is_less ["one", "other"] [] := F_is_less.bindsN fun _ _ _ _ _ _ us hl => match us, hl with | [_, _], _ => rfl
  have g_is_less : mg "is_less" = some (.ref (He.ga K "is_less")) := He.glo_ok X G (cd.fact 9 (f := .glo "is_less") rfl)
  obtain ⟨fd_is_chance, F0_is_chance⟩ := cd.def_ 10 (d := d_is_chance) rfl
  have F_is_chance : FnP K "is_chance" s_is_chance (He.ga K "is_chance") fd_is_chance := F0_is_chance
  have b_is_chance : Binds K fd_is_chance ["value"] [] := F_is_chance.bindsN fun _ _ _ _ _ _ us hl => match us, hl with | [_], _ => rfl
  have g_is_chance : mg "is_chance" = some (.ref (He.ga K "is_chance")) := He.glo_ok X G (cd.fact 10 (f := .glo "is_chance") rfl)
  obtain ⟨fd_total_of, F0_total_of⟩ := cd.def_ 11 (d := d_total_of) rfl
  have F_total_of : FnP K "total_of" s_total_of (He.ga K "total_of") fd_total_of := F0_total_of
  have b_total_of : Binds K fd_total_of ["values"] [] := F_total_of.bindsN fun _ _ _ _ _ _ us hl => match us, hl with | [_], _ => rfl
  have g_total_of : mg "total_of" = some (.ref (He.ga K "total_of")) := He.glo_ok X G (cd.fact 11 (f := .glo "total_of") rfl)
  obtain ⟨fd_is_life, F0_is_life⟩ := cd.def_ 12 (d := d_is_life) rfl
  have F_is_life : FnP K "is_life" s_is_life (He.ga K "is_life") fd_is_life := F0_is_life
  have b_is_life : Binds K fd_is_life ["value"] [] := F_is_life.bindsN fun _ _ _ _ _ _ us hl => match us, hl with | [_], _ => rfl
  have g_is_life : mg "is_life" = some (.ref (He.ga K "is_life")) := He.glo_ok X G (cd.fact 12 (f := .glo "is_life") rfl)
  obtain ⟨fd_need_life, F0_need_life⟩ := cd.def_ 13 (d := d_need_life) rfl
  have F_need_life : FnP K "need_life" s_need_life (He.ga K "need_life") fd_need_life := F0_need_life
  have b_need_life : Binds K fd_need_life ["life"] [] := F_need_life.bindsN fun _ _ _ _ _ _ us hl => match us, hl with | [_], _ => rfl
  have g_need_life : mg "need_life" = some (.ref (He.ga K "need_life")) := He.glo_ok X G (cd.fact 13 (f := .glo "need_life") rfl)
  obtain ⟨fd_mean_life, F0_mean_life⟩ := cd.def_ 14 (d := d_mean_life) rfl
  have F_mean_life : FnP K "mean_life" s_mean_life (He.ga K "mean_life") fd_mean_life := F0_mean_life
  have b_mean_life : Binds K fd_mean_life ["life"] [] := F_mean_life.bindsN fun _ _ _ _ _ _ us hl => match us, hl with | [_], _ => rfl
  have g_mean_life : mg "mean_life" = some (.ref (He.ga K "mean_life")) := He.glo_ok X G (cd.fact 14 (f := .glo "mean_life") rfl)
  obtain ⟨fd_rates_of, F0_rates_of⟩ := cd.def_ 15 (d := d_rates_of) rfl
  have F_rates_of : FnP K "rates_of" s_rates_of (He.ga K "rates_of") fd_rates_of := F0_rates_of
  have b_rates_of : Binds K fd_rates_of ["life"] [] := F_rates_of.bindsN fun _ _ _ _ _ _ us hl => match us, hl with | [_], _ => rfl
  have g_rates_of : mg "rates_of" = some (.ref (He.ga K "rates_of")) := He.glo_ok X G (cd.fact 15 (f := .glo "rates_of") rfl)
  obtain ⟨fd_older, F0_older⟩ := cd.def_ 16 (d := d_older) rfl
  have F_older : FnP K "older" s_older (He.ga K "older") fd_older := F0_older
  have b_older : Binds K fd_older ["life", "t"] [] := F_older.bindsN fun _ _ _ _ _ _ us hl => match us, hl with | [_, _], _ => rfl
  have g_older : mg "older" = some (.ref (He.ga K "older")) := He.glo_ok X G (cd.fact 16 (f := .glo "older") rfl)
  obtain ⟨fd_item, F0_item⟩ := cd.def_ 17 (d := d_item) rfl
  have F_item : FnP K "item" s_item (He.ga K "item") fd_item := F0_item
  have b_item : Binds K fd_item ["life", "t"] [] := F_item.bindsN fun _ _ _ _ _ _ us hl => match us, hl with | [_, _], _ => rfl
  have g_item : mg "item" = some (.ref (He.ga K "item")) := He.glo_ok X G (cd.fact 17 (f := .glo "item") rfl)
  obtain ⟨fd_power, F0_power⟩ := cd.def_ 18 (d := d_power) rfl
  have F_power : FnP K "power" s_power (He.ga K "power") fd_power := F0_power
  have b_power : Binds K fd_power ["base", "exponent"] [] := F_power.bindsN fun _ _ _ _ _ _ us hl => match us, hl with | [_, _], _ => rfl
  have g_power : mg "power" = some (.ref (He.ga K "power")) := He.glo_ok X G (cd.fact 18 (f := .glo "power") rfl)
  obtain ⟨fd_falling_rate, F0_falling_rate⟩ := cd.def_ 19 (d := d_falling_rate) rfl
  have F_falling_rate : FnP K "falling_rate" s_falling_rate (He.ga K "falling_rate") fd_falling_rate := F0_falling_rate
  have b_falling_rate : Binds K fd_falling_rate ["life"] [] := F_falling_rate.bindsN fun _ _ _ _ _ _ us hl => match us, hl with | [_], _ => rfl
  have g_falling_rate : mg "falling_rate" = some (.ref (He.ga K "falling_rate")) := He.glo_ok X G (cd.fact 19 (f := .glo "falling_rate") rfl)
  obtain ⟨fd_falling_average, F0_falling_average⟩ := cd.def_ 20 (d := d_falling_average) rfl
  have F_falling_average : FnP K "falling_average" s_falling_average (He.ga K "falling_average") fd_falling_average := F0_falling_average
  have b_falling_average : Binds K fd_falling_average ["life"] [] := F_falling_average.bindsN fun _ _ _ _ _ _ us hl => match us, hl with | [_], _ => rfl
  have g_falling_average : mg "falling_average" = some (.ref (He.ga K "falling_average")) := He.glo_ok X G (cd.fact 20 (f := .glo "falling_average") rfl)
  obtain ⟨fd_better_than_new, F0_better_than_new⟩ := cd.def_ 21 (d := d_better_than_new) rfl
  have F_better_than_new : FnP K "better_than_new" s_better_than_new (He.ga K "better_than_new") fd_better_than_new := F0_better_than_new
  have b_better_than_new : Binds K fd_better_than_new ["life"] [] := F_better_than_new.bindsN fun _ _ _ _ _ _ us hl => match us, hl with | [_], _ => rfl
  have g_better_than_new : mg "better_than_new" = some (.ref (He.ga K "better_than_new")) := He.glo_ok X G (cd.fact 21 (f := .glo "better_than_new") rfl)
  obtain ⟨fd_better_mean, F0_better_mean⟩ := cd.def_ 22 (d := d_better_mean) rfl
  have F_better_mean : FnP K "better_mean" s_better_mean (He.ga K "better_mean") fd_better_mean := F0_better_mean
  have b_better_mean : Binds K fd_better_mean ["life"] [] := F_better_mean.bindsN fun _ _ _ _ _ _ us hl => match us, hl with | [_], _ => rfl
  have g_better_mean : mg "better_mean" = some (.ref (He.ga K "better_mean")) := He.glo_ok X G (cd.fact 22 (f := .glo "better_mean") rfl)
  obtain ⟨fd_ages, F0_ages⟩ := cd.def_ 23 (d := d_ages) rfl
  have F_ages : FnP K "ages" s_ages (He.ga K "ages") fd_ages := F0_ages
  have b_ages : Binds K fd_ages ["life"] [] := F_ages.bindsN fun _ _ _ _ _ _ us hl => match us, hl with | [_], _ => rfl
  have g_ages : mg "ages" = some (.ref (He.ga K "ages")) := He.glo_ok X G (cd.fact 23 (f := .glo "ages") rfl)
  obtain ⟨fd_below_by, F0_below_by⟩ := cd.def_ 24 (d := d_below_by) rfl
  have F_below_by : FnP K "below_by" s_below_by (He.ga K "below_by") fd_below_by := F0_below_by
  have b_below_by : Binds K fd_below_by ["one", "other", "word"] [] := F_below_by.bindsN fun _ _ _ _ _ _ us hl => match us, hl with | [_, _, _], _ => rfl
  have g_below_by : mg "below_by" = some (.ref (He.ga K "below_by")) := He.glo_ok X G (cd.fact 24 (f := .glo "below_by") rfl)
  obtain ⟨fd_is_below_ageing, F0_is_below_ageing⟩ := cd.def_ 25 (d := d_is_below_ageing) rfl
  have F_is_below_ageing : FnP K "is_below" s_is_below_ageing (He.ga K "is_below_ageing") fd_is_below_ageing := F0_is_below_ageing
  have b_is_below_ageing : Binds K fd_is_below_ageing ["one", "other", "word"] [] := F_is_below_ageing.bindsN fun _ _ _ _ _ _ us hl => match us, hl with | [_, _, _], _ => rfl
  have g_is_below_ageing : mg "is_below_ageing" = some (.ref (He.ga K "is_below_ageing")) := He.glo_ok X G (cd.fact 25 (f := .glo "is_below_ageing") rfl)
  obtain ⟨fd__law_taken, F0__law_taken⟩ := cd.def_ 26 (d := d__law_taken) rfl
  have F__law_taken : FnP K "_law_taken" s__law_taken (He.ga K "_law_taken") fd__law_taken := F0__law_taken
  have b__law_taken : Binds K fd__law_taken ["_law_row", "_law_many"] [] := F__law_taken.bindsN fun _ _ _ _ _ _ us hl => match us, hl with | [_, _], _ => rfl
  have g__law_taken : mg "_law_taken" = some (.ref (He.ga K "_law_taken")) := He.glo_ok X G (cd.fact 26 (f := .glo "_law_taken") rfl)
  obtain ⟨fd__law_pick, F0__law_pick⟩ := cd.def_ 27 (d := d__law_pick) rfl
  have F__law_pick : FnP K "_law_pick" s__law_pick (He.ga K "_law_pick") fd__law_pick := F0__law_pick
  have b__law_pick : Binds K fd__law_pick ["_law_row", "_law_things"] [] := F__law_pick.bindsN fun _ _ _ _ _ _ us hl => match us, hl with | [_, _], _ => rfl
  have g__law_pick : mg "_law_pick" = some (.ref (He.ga K "_law_pick")) := He.glo_ok X G (cd.fact 27 (f := .glo "_law_pick") rfl)
  obtain ⟨fd__law_gcd, F0__law_gcd⟩ := cd.def_ 28 (d := d__law_gcd) rfl
  have F__law_gcd : FnP K "_law_gcd" s__law_gcd (He.ga K "_law_gcd") fd__law_gcd := F0__law_gcd
  have b__law_gcd : Binds K fd__law_gcd ["_law_one", "_law_other"] [] := F__law_gcd.bindsN fun _ _ _ _ _ _ us hl => match us, hl with | [_, _], _ => rfl
  have g__law_gcd : mg "_law_gcd" = some (.ref (He.ga K "_law_gcd")) := He.glo_ok X G (cd.fact 28 (f := .glo "_law_gcd") rfl)
  obtain ⟨fd__law_ratio, F0__law_ratio⟩ := cd.def_ 29 (d := d__law_ratio) rfl
  have F__law_ratio : FnP K "_law_ratio" s__law_ratio (He.ga K "_law_ratio") fd__law_ratio := F0__law_ratio
  have b__law_ratio : Binds K fd__law_ratio ["_law_numerator", "_law_denominator"] [] := F__law_ratio.bindsN fun _ _ _ _ _ _ us hl => match us, hl with | [_, _], _ => rfl
  have g__law_ratio : mg "_law_ratio" = some (.ref (He.ga K "_law_ratio")) := He.glo_ok X G (cd.fact 29 (f := .glo "_law_ratio") rfl)
  obtain ⟨fd__law_times, F0__law_times⟩ := cd.def_ 30 (d := d__law_times) rfl
  have F__law_times : FnP K "_law_times" s__law_times (He.ga K "_law_times") fd__law_times := F0__law_times
  have b__law_times : Binds K fd__law_times ["_law_one", "_law_other"] [] := F__law_times.bindsN fun _ _ _ _ _ _ us hl => match us, hl with | [_, _], _ => rfl
  have g__law_times : mg "_law_times" = some (.ref (He.ga K "_law_times")) := He.glo_ok X G (cd.fact 30 (f := .glo "_law_times") rfl)
  obtain ⟨fd__law_life, F0__law_life⟩ := cd.def_ 31 (d := d__law_life) rfl
  have F__law_life : FnP K "_law_life" s__law_life (He.ga K "_law_life") fd__law_life := F0__law_life
  have b__law_life : Binds K fd__law_life ["_law_row", "_law_most"] [] := F__law_life.bindsN fun _ _ _ _ _ _ us hl => match us, hl with | [_, _], _ => rfl
  have g__law_life : mg "_law_life" = some (.ref (He.ga K "_law_life")) := He.glo_ok X G (cd.fact 31 (f := .glo "_law_life") rfl)
  obtain ⟨fd__law_less, F0__law_less⟩ := cd.def_ 32 (d := d__law_less) rfl
  have F__law_less : FnP K "_law_less" s__law_less (He.ga K "_law_less") fd__law_less := F0__law_less
  have b__law_less : Binds K fd__law_less ["_law_one", "_law_other"] [] := F__law_less.bindsN fun _ _ _ _ _ _ us hl => match us, hl with | [_, _], _ => rfl
  have g__law_less : mg "_law_less" = some (.ref (He.ga K "_law_less")) := He.glo_ok X G (cd.fact 32 (f := .glo "_law_less") rfl)
  obtain ⟨fd__law_alike, F0__law_alike⟩ := cd.def_ 33 (d := d__law_alike) rfl
  have F__law_alike : FnP K "_law_alike" s__law_alike (He.ga K "_law_alike") fd__law_alike := F0__law_alike
  have b__law_alike : Binds K fd__law_alike ["_law_found", "_law_due"] [] := F__law_alike.bindsN fun _ _ _ _ _ _ us hl => match us, hl with | [_, _], _ => rfl
  have g__law_alike : mg "_law_alike" = some (.ref (He.ga K "_law_alike")) := He.glo_ok X G (cd.fact 33 (f := .glo "_law_alike") rfl)
  obtain ⟨fd__law_plus, F0__law_plus⟩ := cd.def_ 34 (d := d__law_plus) rfl
  have F__law_plus : FnP K "_law_plus" s__law_plus (He.ga K "_law_plus") fd__law_plus := F0__law_plus
  have b__law_plus : Binds K fd__law_plus ["_law_one", "_law_other"] [] := F__law_plus.bindsN fun _ _ _ _ _ _ us hl => match us, hl with | [_, _], _ => rfl
  have g__law_plus : mg "_law_plus" = some (.ref (He.ga K "_law_plus")) := He.glo_ok X G (cd.fact 34 (f := .glo "_law_plus") rfl)
  obtain ⟨fd__law_sum, F0__law_sum⟩ := cd.def_ 35 (d := d__law_sum) rfl
  have F__law_sum : FnP K "_law_sum" s__law_sum (He.ga K "_law_sum") fd__law_sum := F0__law_sum
  have b__law_sum : Binds K fd__law_sum ["_law_values"] [] := F__law_sum.bindsN fun _ _ _ _ _ _ us hl => match us, hl with | [_], _ => rfl
  have g__law_sum : mg "_law_sum" = some (.ref (He.ga K "_law_sum")) := He.glo_ok X G (cd.fact 35 (f := .glo "_law_sum") rfl)
  obtain ⟨fd__law_less_one, F0__law_less_one⟩ := cd.def_ 36 (d := d__law_less_one) rfl
  have F__law_less_one : FnP K "_law_less_one" s__law_less_one (He.ga K "_law_less_one") fd__law_less_one := F0__law_less_one
  have b__law_less_one : Binds K fd__law_less_one ["_law_one"] [] := F__law_less_one.bindsN fun _ _ _ _ _ _ us hl => match us, hl with | [_], _ => rfl
  have g__law_less_one : mg "_law_less_one" = some (.ref (He.ga K "_law_less_one")) := He.glo_ok X G (cd.fact 36 (f := .glo "_law_less_one") rfl)
  obtain ⟨fd__law_rates, F0__law_rates⟩ := cd.def_ 37 (d := d__law_rates) rfl
  have F__law_rates : FnP K "_law_rates" s__law_rates (He.ga K "_law_rates") fd__law_rates := F0__law_rates
  have b__law_rates : Binds K fd__law_rates ["_law_life_here"] [] := F__law_rates.bindsN fun _ _ _ _ _ _ us hl => match us, hl with | [_], _ => rfl
  have g__law_rates : mg "_law_rates" = some (.ref (He.ga K "_law_rates")) := He.glo_ok X G (cd.fact 37 (f := .glo "_law_rates") rfl)
  obtain ⟨fd__law_power, F0__law_power⟩ := cd.def_ 38 (d := d__law_power) rfl
  have F__law_power : FnP K "_law_power" s__law_power (He.ga K "_law_power") fd__law_power := F0__law_power
  have b__law_power : Binds K fd__law_power ["_law_base", "_law_exponent"] [] := F__law_power.bindsN fun _ _ _ _ _ _ us hl => match us, hl with | [_, _], _ => rfl
  have g__law_power : mg "_law_power" = some (.ref (He.ga K "_law_power")) := He.glo_ok X G (cd.fact 38 (f := .glo "_law_power") rfl)
  obtain ⟨fd__law_item, F0__law_item⟩ := cd.def_ 39 (d := d__law_item) rfl
  have F__law_item : FnP K "_law_item" s__law_item (He.ga K "_law_item") fd__law_item := F0__law_item
  have b__law_item : Binds K fd__law_item ["_law_life_here", "_law_t"] [] := F__law_item.bindsN fun _ _ _ _ _ _ us hl => match us, hl with | [_, _], _ => rfl
  have g__law_item : mg "_law_item" = some (.ref (He.ga K "_law_item")) := He.glo_ok X G (cd.fact 39 (f := .glo "_law_item") rfl)
  obtain ⟨fd__law_not_ageing, F0__law_not_ageing⟩ := cd.def_ 40 (d := d__law_not_ageing) rfl
  have F__law_not_ageing : FnP K "_law_not_ageing" s__law_not_ageing (He.ga K "_law_not_ageing") fd__law_not_ageing := F0__law_not_ageing
  have b__law_not_ageing : Binds K fd__law_not_ageing ["_law_life_here", "_law_word"] [] := F__law_not_ageing.bindsN fun _ _ _ _ _ _ us hl => match us, hl with | [_, _], _ => rfl
  have g__law_not_ageing : mg "_law_not_ageing" = some (.ref (He.ga K "_law_not_ageing")) := He.glo_ok X G (cd.fact 40 (f := .glo "_law_not_ageing") rfl)
  obtain ⟨fd_law, F0_law⟩ := cd.def_ 41 (d := d_law) rfl
  have F_law : FnP K "law" s_law (He.ga K "law") fd_law := F0_law
  have b_law : Binds K fd_law ["_law_script"] [] := F_law.bindsN fun _ _ _ _ _ _ us hl => match us, hl with | [_], _ => rfl
  have g_law : mg "law" = some (.ref (He.ga K "law")) := He.glo_ok X G (cd.fact 41 (f := .glo "law") rfl)
  have e := hfa.symm.trans g_law
  cases e
  have bL := FunD.bindsA (ps := ["_law_script"]) F_law fun _ _ _ _ _ _ us hl => match us, hl with | [_], _ => rfl
  refine ⟨fd_law, fun s v => bL s [v] rfl, fun base _ _ => ?_⟩
  have c_is_in : Cal P w K mg base 1 "is_in" (spF K R_is_in) := Cal.of (ok_is_in F_is_in T ) g_is_in F_is_in.kp b_is_in
  have c_gcd : Cal P w K mg base 1 "gcd" (spF K R_gcd) := Cal.of (ok_gcd F_gcd T ) g_gcd F_gcd.kp b_gcd
  have c_reduced : Cal P w K mg base 2 "reduced" (spF K R_reduced) := Cal.of (ok_reduced F_reduced T c_gcd) g_reduced F_reduced.kp b_reduced
  have c_plus : Cal P w K mg base 3 "plus" (spF K R_plus) := Cal.of (ok_plus F_plus T c_reduced) g_plus F_plus.kp b_plus
  have c_minus : Cal P w K mg base 3 "minus" (spF K R_minus) := Cal.of (ok_minus F_minus T c_reduced) g_minus F_minus.kp b_minus
  have c_times : Cal P w K mg base 3 "times" (spF K R_times) := Cal.of (ok_times F_times T c_reduced) g_times F_times.kp b_times
  have c_over : Cal P w K mg base 3 "over" (spF K R_over) := Cal.of (ok_over F_over T c_reduced) g_over F_over.kp b_over
  have c_is_below_numbers : Cal P w K mg base 1 "is_below_numbers" (spF K R_is_below_numbers) := Cal.of (ok_is_below_numbers F_is_below_numbers T ) g_is_below_numbers F_is_below_numbers.kp b_is_below_numbers
  have c_is_less : Cal P w K mg base 2 "is_less" (spF K R_is_less) := Cal.of (ok_is_less F_is_less T c_is_below_numbers) g_is_less F_is_less.kp b_is_less
  have c_is_ratio : Cal P w K mg base 2 "is_ratio" (spF K R_is_ratio) := Cal.of (ok_is_ratio F_is_ratio T c_gcd) g_is_ratio F_is_ratio.kp b_is_ratio
  have c_is_chance : Cal P w K mg base 3 "is_chance" (spF K R_is_chance) := Cal.of (ok_is_chance F_is_chance T c_is_ratio) g_is_chance F_is_chance.kp b_is_chance
  have c_total_of : Cal P w K mg base 4 "total_of" (spF K R_total_of) := Cal.of (ok_total_of F_total_of T c_plus) g_total_of F_total_of.kp b_total_of
  have c_is_life : Cal P w K mg base 4 "is_life" (spF K R_is_life) := Cal.of (ok_is_life F_is_life T c_is_below_numbers c_is_chance) g_is_life F_is_life.kp b_is_life
  have c_need_life : Cal P w K mg base 5 "need_life" (spF K R_need_life) := Cal.of (ok_need_life F_need_life T c_is_life) g_need_life F_need_life.kp b_need_life
  have c_mean_life : Cal P w K mg base 6 "mean_life" (spF K R_mean_life) := Cal.of (ok_mean_life F_mean_life T c_need_life c_total_of) g_mean_life F_mean_life.kp b_mean_life
  have c_rates_of : Cal P w K mg base 4 "rates_of" (spF K R_rates_of) := Cal.of (ok_rates_of F_rates_of T c_minus c_over) g_rates_of F_rates_of.kp b_rates_of
  have c_older : Cal P w K mg base 6 "older" (spF K R_older) := Cal.of (ok_older F_older T c_need_life c_is_in c_over) g_older F_older.kp b_older
  have c_item : Cal P w K mg base 1 "item" (spF K R_item) := Cal.of (ok_item F_item T ) g_item F_item.kp b_item
  have c_power : Cal P w K mg base 4 "power" (spF K R_power) := Cal.of (ok_power F_power T c_times) g_power F_power.kp b_power
  have c_falling_rate : Cal P w K mg base 5 "falling_rate" (spF K R_falling_rate) := Cal.of (ok_falling_rate F_falling_rate T c_rates_of c_is_less) g_falling_rate F_falling_rate.kp b_falling_rate
  have c_falling_average : Cal P w K mg base 5 "falling_average" (spF K R_falling_average) := Cal.of (ok_falling_average F_falling_average T c_is_less c_power) g_falling_average F_falling_average.kp b_falling_average
  have c_better_than_new : Cal P w K mg base 4 "better_than_new" (spF K R_better_than_new) := Cal.of (ok_better_than_new F_better_than_new T c_is_less c_times) g_better_than_new F_better_than_new.kp b_better_than_new
  have c_better_mean : Cal P w K mg base 5 "better_mean" (spF K R_better_mean) := Cal.of (ok_better_mean F_better_mean T c_total_of c_is_less c_times) g_better_mean F_better_mean.kp b_better_mean
  have c_below_by : Cal P w K mg base 3 "below_by" (spF K R_below_by) := Cal.of (ok_below_by F_below_by T c_is_less c_item) g_below_by F_below_by.kp b_below_by
  have c_is_below_ageing : Cal P w K mg base 6 "is_below_ageing" (spF K R_is_below_ageing) := Cal.of (ok_is_below_ageing F_is_below_ageing T c_need_life c_below_by) g_is_below_ageing F_is_below_ageing.kp b_is_below_ageing
  have c__law_gcd : Cal P w K mg base 1 "_law_gcd" (spF K R__law_gcd) := Cal.of (ok__law_gcd F__law_gcd T ) g__law_gcd F__law_gcd.kp b__law_gcd
  have c__law_ratio : Cal P w K mg base 2 "_law_ratio" (spF K R__law_ratio) := Cal.of (ok__law_ratio F__law_ratio T c__law_gcd) g__law_ratio F__law_ratio.kp b__law_ratio
  have c__law_times : Cal P w K mg base 3 "_law_times" (spF K R__law_times) := Cal.of (ok__law_times F__law_times T c__law_ratio) g__law_times F__law_times.kp b__law_times
  have c__law_plus : Cal P w K mg base 3 "_law_plus" (spF K R__law_plus) := Cal.of (ok__law_plus F__law_plus T c__law_ratio) g__law_plus F__law_plus.kp b__law_plus
  have c__law_less : Cal P w K mg base 1 "_law_less" (spF K R__law_less) := Cal.of (ok__law_less F__law_less T ) g__law_less F__law_less.kp b__law_less
  have c__law_sum : Cal P w K mg base 4 "_law_sum" (spF K R__law_sum) := Cal.of (ok__law_sum F__law_sum T c__law_plus) g__law_sum F__law_sum.kp b__law_sum
  have c__law_less_one : Cal P w K mg base 1 "_law_less_one" (spF K R__law_less_one) := Cal.of (ok__law_less_one F__law_less_one T ) g__law_less_one F__law_less_one.kp b__law_less_one
  have c__law_power : Cal P w K mg base 4 "_law_power" (spF K R__law_power) := Cal.of (ok__law_power F__law_power T c__law_times) g__law_power F__law_power.kp b__law_power
  have c__law_item : Cal P w K mg base 1 "_law_item" (spF K R__law_item) := Cal.of (ok__law_item F__law_item T ) g__law_item F__law_item.kp b__law_item
  have c__law_rates : Cal P w K mg base 3 "_law_rates" (spF K R__law_rates) := Cal.of (ok__law_rates F__law_rates T c__law_less_one c__law_ratio) g__law_rates F__law_rates.kp b__law_rates
  have c__law_not_ageing : Cal P w K mg base 5 "_law_not_ageing" (spF K R__law_not_ageing) := Cal.of (ok__law_not_ageing F__law_not_ageing T c__law_sum c__law_rates c__law_less c__law_power c__law_item c__law_times) g__law_not_ageing F__law_not_ageing.kp b__law_not_ageing
  have c__law_taken : Cal P w K mg base 1 "_law_taken" (spTaken K) := Cal.of (ok__law_taken F__law_taken T ) g__law_taken F__law_taken.kp b__law_taken
  have c__law_pick : Cal P w K mg base 2 "_law_pick" (spPick K) := Cal.of (ok__law_pick F__law_pick T c__law_taken) g__law_pick F__law_pick.kp b__law_pick
  have c__law_life : Cal P w K mg base 4 "_law_life" (spLife K) := Cal.of (ok__law_life F__law_life T c__law_pick c__law_taken c__law_times c__law_ratio) g__law_life F__law_life.kp b__law_life
  have h_falling_rate : Held P w K mg base 5 (He.ga K "falling_rate") (spF K R_falling_rate) := ⟨⟨fd_falling_rate, ["life"], (ok_falling_rate F_falling_rate T c_rates_of c_is_less).mono (by decide), F_falling_rate.kp, b_falling_rate⟩⟩
  have h_falling_average : Held P w K mg base 5 (He.ga K "falling_average") (spF K R_falling_average) := ⟨⟨fd_falling_average, ["life"], (ok_falling_average F_falling_average T c_is_less c_power).mono (by decide), F_falling_average.kp, b_falling_average⟩⟩
  have h_better_than_new : Held P w K mg base 5 (He.ga K "better_than_new") (spF K R_better_than_new) := ⟨⟨fd_better_than_new, ["life"], (ok_better_than_new F_better_than_new T c_is_less c_times).mono (by decide), F_better_than_new.kp, b_better_than_new⟩⟩
  have h_better_mean : Held P w K mg base 5 (He.ga K "better_mean") (spF K R_better_mean) := ⟨⟨fd_better_mean, ["life"], (ok_better_mean F_better_mean T c_total_of c_is_less c_times).mono (by decide), F_better_mean.kp, b_better_mean⟩⟩
  have c_ages : Cal P w K mg base 6 "ages" (spF K R_ages) := Cal.of (ok_ages F_ages T c_need_life g_falling_rate g_falling_average g_better_than_new g_better_mean h_falling_rate h_falling_average h_better_than_new h_better_mean (fun_ne F_falling_average F_falling_rate (by decide +kernel)) (fun_ne F_better_than_new F_falling_rate (by decide +kernel)) (fun_ne F_better_mean F_falling_rate (by decide +kernel)) (fun_ne F_better_than_new F_falling_average (by decide +kernel)) (fun_ne F_better_mean F_falling_average (by decide +kernel)) (fun_ne F_better_mean F_better_than_new (by decide +kernel))) g_ages F_ages.kp b_ages
  have c_leaf : Cal P w K mg base 1 "_law_alike" (spF K R_leaf) := Cal.of (ok_leaf F__law_alike T) g__law_alike F__law_alike.kp b__law_alike
  have c__law_alike : Cal P w K mg base 2 "_law_alike" (spF K R_alike) := Cal.of (ok_alike F__law_alike T c_leaf) g__law_alike F__law_alike.kp b__law_alike
  exact ok_law F_law T c__law_life c_ages c__law_alike c_older c__law_not_ageing c__law_less c_is_below_ageing c_mean_life
end Fw
open PySem PySem.W PySem.Calls PyProof.Rows
theorem PySem.Challenge.cw_faultworks_k57_whole_lives_that_are_left_holds : PySem.Challenge.rw_faultworks_k57_whole_lives_that_are_left.Holds := by
  w_on; o_law
  refine HandSHeadRun.head_any (r := OpenLaw.row PySem.Challenge.rw_faultworks_k57_whole_lives_that_are_left) (q := view (OpenLaw.row PySem.Challenge.rw_faultworks_k57_whole_lives_that_are_left).prog [59]) (H := Fw.hk) (ob := Fw.ob) (M := 3000) (loose := Fw.names) (d := HandSHeadRun.topDef (OpenLaw.row PySem.Challenge.rw_faultworks_k57_whole_lives_that_are_left).prog 59) (kwd := []) Fw.ob_eq
    (by kernel_rfl) (fun s => by kernel_rfl) Fw.run (by kernel_rfl) (by kernel_rfl) (by kernel_rfl) (by rfl) (by first | assumption | decide +kernel) (by decide +kernel) ⟨rfl, rfl, rfl, rfl, rfl, by decide +kernel⟩ ?hw ?hc
  case hw => w_witness2
  case hc =>
    refine L2.walk_ofE (l := PySem.Challenge.rw_faultworks_k57_whole_lives_that_are_left) (n := 63) (k := 7) (x := "_law_script") (CX := L2.CX0) rfl (by decide) (by kernel_rfl) ⟨rfl, by decide, by decide⟩ ?F (fun _ _ _ _ z => z)
    intro w mg fa h Y G hmg0
    obtain ⟨K, KX, c⟩ := Y
    have hmg : mg ("law" : PySem.Str) = some (.ref fa) := by
      have e : (HandSHeadRun.topDef (OpenLaw.row PySem.Challenge.rw_faultworks_k57_whole_lives_that_are_left).prog 59).name = ("law" : PySem.Str) := by kernel_rfl
      rw [← e]
      exact hmg0
    obtain ⟨fd, hb, hF⟩ := Fw.facts (P := (PySem.Challenge.rw_faultworks_k57_whole_lives_that_are_left).prog) (w := w) KX G hmg c
    exact ⟨K, fd, Fw.spLaw K, KX, hb, fun H a ns hl _ hS => ⟨a, ns, rfl, hS, hl, fun _ => rfl⟩, hF⟩
