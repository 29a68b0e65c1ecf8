import PyProof.Rows.All
import Wide.All
import OpenK.AllK
import Wide.FinOn
import HandS.ForMost
import HandS.IsInst
import HandS.Gcd
import HandS.Wide
import HandS.WideBits
import HandS.Style
import HandS.Walk
import KE.GoesMore
import KE.GoesEnum
import PyProof.ReprRoads
import PySem.Challenge.RW_spoutlines_k17_whole_asks_of_one_distanc
set_option Elab.async false
/-! Fractions as Rat, their sizes; the plain law of the asks. No program here. -/
namespace K17

/-- both numbers of a fraction are below 2 ^ B -/
def Bd (B : Nat) (q : Rat) : Prop := q.num.natAbs < 2 ^ B ∧ q.den < 2 ^ B
/-- a whole number below 2 ^ B in size -/
def Bi (B : Nat) (i : Int) : Prop := i.natAbs < 2 ^ B

theorem Bi.mono {B C : Nat} {i : Int} (h : Bi B i) (l : B ≤ C) : Bi C i := Nat.lt_of_lt_of_le h (Nat.pow_le_pow_right (by decide) l)
theorem Bd.mono {B C : Nat} {q : Rat} (h : Bd B q) (l : B ≤ C) : Bd C q :=
  ⟨Nat.lt_of_lt_of_le h.1 (Nat.pow_le_pow_right (by decide) l), Nat.lt_of_lt_of_le h.2 (Nat.pow_le_pow_right (by decide) l)⟩
theorem Bi.mul {B C : Nat} {i j : Int} (h : Bi B i) (k : Bi C j) : Bi (B + C) (i * j) := by
  unfold Bi at *
  rw [Int.natAbs_mul, Nat.pow_add]
  exact Nat.mul_lt_mul'' h k
theorem Bi.add {B C : Nat} {i j : Int} (h : Bi B i) (k : Bi C j) : Bi (max B C + 1) (i + j) := by
  have h' := h.mono (Nat.le_max_left B C)
  have k' := k.mono (Nat.le_max_right B C)
  unfold Bi at *
  rw [Nat.pow_succ]
  omega
theorem Bi.sub {B C : Nat} {i j : Int} (h : Bi B i) (k : Bi C j) : Bi (max B C + 1) (i - j) := by
  have h' := h.mono (Nat.le_max_left B C)
  have k' := k.mono (Nat.le_max_right B C)
  unfold Bi at *
  rw [Nat.pow_succ]
  omega
theorem Bi.neg {B : Nat} {i : Int} (h : Bi B i) : Bi B (-i) := by
  unfold Bi at *
  omega
theorem Bd.bn {B : Nat} {q : Rat} (h : Bd B q) : Bi B q.num := h.1
theorem Bd.bd {B : Nat} {q : Rat} (h : Bd B q) : Bi B (q.den : Int) := by
  unfold Bi
  rw [Int.natAbs_natCast]
  exact h.2
theorem den_pos (q : Rat) : (0 : Int) < (q.den : Int) := by
  have := q.den_pos
  omega

/-! ### reduced by the greatest common divisor -/
theorem gcd_pos {n m : Int} (hm : 0 < m) : (0 : Int) < ((Nat.gcd n.natAbs m.natAbs : Nat) : Int) := by
  have : 0 < Nat.gcd n.natAbs m.natAbs := Nat.gcd_pos_of_pos_right _ (by omega)
  omega
theorem red_num {n m : Int} (hm : 0 < m) : n / ((Nat.gcd n.natAbs m.natAbs : Nat) : Int) = (Rat.divInt n m).num := by
  rw [Rat.num_divInt, Int.sign_eq_one_of_pos hm, Int.one_mul, Int.gcd_comm]
  rfl
theorem red_den {n m : Int} (hm : 0 < m) : m / ((Nat.gcd n.natAbs m.natAbs : Nat) : Int) = ((Rat.divInt n m).den : Int) := by
  rw [Rat.den_divInt, if_neg (by omega), Int.gcd_comm]
  show m / ((Nat.gcd n.natAbs m.natAbs : Nat) : Int) = ((m.natAbs / Nat.gcd n.natAbs m.natAbs : Nat) : Int)
  rw [Int.natCast_ediv]
  congr 1
  omega
theorem num_le {n m : Int} (hm : 0 < m) : (Rat.divInt n m).num.natAbs ≤ n.natAbs := by
  rw [← red_num hm]
  exact Int.natAbs_ediv_le_natAbs _ _
theorem den_le {n m : Int} (hm : 0 < m) : (Rat.divInt n m).den ≤ m.natAbs := by
  have e := red_den (n := n) hm
  have h := Int.natAbs_ediv_le_natAbs m ((Nat.gcd n.natAbs m.natAbs : Nat) : Int)
  rw [e, Int.natAbs_natCast] at h
  exact h
theorem Bd.of {B : Nat} {n m : Int} (hm : 0 < m) (hn : Bi B n) (hb : Bi B m) : Bd B (Rat.divInt n m) :=
  ⟨Nat.lt_of_le_of_lt (num_le hm) hn, Nat.lt_of_le_of_lt (den_le hm) hb⟩
theorem gcd_rat (q : Rat) : Nat.gcd q.num.natAbs (q.den : Int).natAbs = 1 := by
  rw [Int.natAbs_natCast]
  exact q.reduced
theorem rat_of {n m : Int} (hm : 0 < m) (h : Nat.gcd n.natAbs m.natAbs = 1) : n = (Rat.divInt n m).num ∧ m = ((Rat.divInt n m).den : Int) := by
  rw [← red_num hm, ← red_den hm, h]
  exact ⟨(Int.ediv_one n).symm, (Int.ediv_one m).symm⟩

/-! ### the operations by numerator and denominator -/
theorem add_eq (p q : Rat) : Rat.divInt (p.num * q.den + q.num * p.den) ((p.den : Int) * q.den) = p + q := by
  rw [Rat.add_def', ← Int.natCast_mul, Rat.divInt_ofNat]
theorem sub_eq (p q : Rat) : Rat.divInt (p.num * q.den - q.num * p.den) ((p.den : Int) * q.den) = p - q := by
  rw [Rat.sub_def', ← Int.natCast_mul, Rat.divInt_ofNat]
theorem mul_eq (p q : Rat) : Rat.divInt (p.num * q.num) ((p.den : Int) * q.den) = p * q := by
  rw [Rat.mul_def', ← Int.natCast_mul, Rat.divInt_ofNat]
theorem div_eq (p q : Rat) : Rat.divInt (p.num * q.den) ((p.den : Int) * q.num) = p / q := by
  rw [Rat.div_def, Rat.inv_def, ← Rat.divInt_mul_divInt, Rat.num_divInt_den]
theorem den_mul_pos (p q : Rat) : (0 : Int) < (p.den : Int) * q.den := Int.mul_pos (den_pos p) (den_pos q)
theorem num_pos {q : Rat} : 0 < q.num ↔ 0 < q := by
  have h1 := @Rat.num_nonneg q
  have h2 := @Rat.num_eq_zero q
  have h3 : (0 : Rat) < q ↔ 0 ≤ q ∧ (0 : Rat) ≠ q := Rat.lt_iff_le_and_ne
  rw [h3]
  constructor
  · intro h
    exact ⟨h1.mp (by omega), fun e => by have := h2.mpr e.symm; omega⟩
  · rintro ⟨a, b⟩
    have := h1.mpr a
    have : q.num ≠ 0 := fun e => b (h2.mp e).symm
    omega
theorem div_den_pos {p q : Rat} (hq : 0 < q) : (0 : Int) < (p.den : Int) * q.num := Int.mul_pos (den_pos p) (num_pos.mpr hq)

theorem Bd.add {B C : Nat} {p q : Rat} (hp : Bd B p) (hq : Bd C q) : Bd (B + C + 1) (p + q) := by
  rw [← add_eq]
  have a := hp.bn.mul hq.bd
  have b := (hq.bn.mul hp.bd).mono (show C + B ≤ B + C by omega)
  refine Bd.of (den_mul_pos p q) ((a.add b).mono (by omega)) ((hp.bd.mul hq.bd).mono (by omega))
theorem Bd.sub {B C : Nat} {p q : Rat} (hp : Bd B p) (hq : Bd C q) : Bd (B + C + 1) (p - q) := by
  rw [← sub_eq]
  have a := hp.bn.mul hq.bd
  have b := (hq.bn.mul hp.bd).mono (show C + B ≤ B + C by omega)
  refine Bd.of (den_mul_pos p q) ((a.sub b).mono (by omega)) ((hp.bd.mul hq.bd).mono (by omega))
theorem Bd.mul {B C : Nat} {p q : Rat} (hp : Bd B p) (hq : Bd C q) : Bd (B + C) (p * q) := by
  rw [← mul_eq]
  exact Bd.of (den_mul_pos p q) (hp.bn.mul hq.bn) (hp.bd.mul hq.bd)
theorem Bd.div {B C : Nat} {p q : Rat} (hp : Bd B p) (hq : Bd C q) (h0 : 0 < q) : Bd (B + C) (p / q) := by
  rw [← div_eq]
  exact Bd.of (div_den_pos h0) (hp.bn.mul hq.bd) (hp.bd.mul hq.bn)
theorem Bd.neg {B : Nat} {p : Rat} (hp : Bd B p) : Bd B (-p) := ⟨by rw [Rat.neg_num, Int.natAbs_neg]; exact hp.1, by rw [Rat.neg_den]; exact hp.2⟩
theorem Bd.zero : Bd 1 0 := by unfold Bd; decide
theorem Bd.one : Bd 1 1 := by unfold Bd; decide
theorem Bd.two : Bd 2 2 := by unfold Bd; decide
theorem Bd.four : Bd 3 4 := by unfold Bd; decide

theorem two_pos : (0 : Rat) < 2 := by decide
theorem four_pos : (0 : Rat) < 4 := by decide
/-! ### the asks, and what they say -/
/-- an ask: its place by three whole numbers, or its fractions -/
inductive Ask where
  | over (x y w : Int) | under (x y w : Int) | dives (x m : Rat) | climbs (x m : Rat) | quick (b : Rat) | slow (b : Rat)
/-- three whole numbers that are a place -/
def Pl (x y w : Int) : Prop := 0 < x ∧ 0 < w ∧ Nat.gcd (Nat.gcd x.natAbs y.natAbs) w.natAbs = 1
/-- an ask as it must be, its numbers below 2 ^ B -/
def Ask.ok (B : Nat) : Ask → Prop
  | .over x y w => Pl x y w ∧ Bi B x ∧ Bi B y ∧ Bi B w
  | .under x y w => Pl x y w ∧ Bi B x ∧ Bi B y ∧ Bi B w
  | .dives x m => 0 ≤ x ∧ Bd B x ∧ Bd B m
  | .climbs x m => 0 ≤ x ∧ Bd B x ∧ Bd B m
  | .quick b => 0 < b ∧ Bd B b
  | .slow b => 0 < b ∧ Bd B b
def Ask.opp : Ask → Ask
  | .over x y w => .under x y w
  | .under x y w => .over x y w
  | .dives x m => .climbs x m
  | .climbs x m => .dives x m
  | .quick b => .slow b
  | .slow b => .quick b
/-- the row of an ask -/
def Ask.row : Ask → Rat × Rat × Rat
  | .over x y w => (Rat.divInt x w, -(Rat.divInt x w * Rat.divInt x w), -Rat.divInt y w)
  | .under x y w => (-Rat.divInt x w, Rat.divInt x w * Rat.divInt x w, Rat.divInt y w)
  | .dives x m => (-1, 2 * x, m)
  | .climbs x m => (1, -(2 * x), -m)
  | .quick b => (0, -1, b)
  | .slow b => (0, 1, -b)
def worthOf (r : Rat × Rat × Rat) (s b : Rat) : Rat := r.1 * s + r.2.1 * b + r.2.2
def Ask.worth (k : Ask) (s b : Rat) : Rat := worthOf k.row s b
/-- a jet does an ask -/
def Ask.done (k : Ask) (s b : Rat) : Prop := 0 ≤ k.worth s b
instance (k : Ask) (s b : Rat) : Decidable (k.done s b) := inferInstanceAs (Decidable (0 ≤ k.worth s b))

theorem opp_opp (k : Ask) : k.opp.opp = k := by cases k <;> rfl
theorem opp_ok {B : Nat} {k : Ask} (h : k.ok B) : k.opp.ok B := by cases k <;> exact h
theorem opp_worth (k : Ask) (s b : Rat) : k.opp.worth s b = -k.worth s b := by
  cases k <;> simp only [Ask.opp, Ask.worth, worthOf, Ask.row] <;> grind
theorem opp_done (k : Ask) (s b : Rat) : k.opp.done s b ↔ k.worth s b ≤ 0 := by
  unfold Ask.done
  rw [opp_worth]
  constructor <;> intro h <;> grind

/-! ### the bound against the row -/
def bent (c d e s : Rat) : Rat := c + s * (d + e * s)
theorem div_pos' {x : Rat} {a : Rat} (hx : 0 < x) : a / x * x = a := Rat.div_mul_cancel (by grind)
theorem place_bound {x y s b : Rat} (hx : 0 < x) : (b ≤ bent (-(y / (x * x))) (1 / x) 0 s ↔ 0 ≤ x * s + -(x * x) * b + -y) ∧ (bent (-(y / (x * x))) (1 / x) 0 s ≤ b ↔ 0 ≤ -x * s + x * x * b + y) := by
  have hxx : 0 < x * x := Rat.mul_pos hx hx
  have e1 : y / (x * x) * (x * x) = y := div_pos' hxx
  have e2 : 1 / x * x = 1 := div_pos' hx
  have e : x * x * bent (-(y / (x * x))) (1 / x) 0 s = x * s - y := by
    unfold bent
    generalize y / (x * x) = u at e1 ⊢
    generalize 1 / x = v at e2 ⊢
    have : x * x * (-u + s * (v + 0 * s)) = -(u * (x * x)) + s * x * (v * x) := by grind
    rw [this, e1, e2]
    grind
  generalize bent (-(y / (x * x))) (1 / x) 0 s = t at e ⊢
  constructor
  · constructor
    · intro h
      have := Rat.mul_le_mul_of_nonneg_left h (Rat.le_of_lt hxx)
      grind
    · intro h
      exact Rat.le_of_mul_le_mul_left (c := x * x) (by grind) hxx
  · constructor
    · intro h
      have := Rat.mul_le_mul_of_nonneg_left h (Rat.le_of_lt hxx)
      grind
    · intro h
      exact Rat.le_of_mul_le_mul_left (c := x * x) (by grind) hxx
theorem slope_bound {x m s b : Rat} (hx : 0 < x) : (bent (-(1 / (2 * x) * m)) (1 / (2 * x)) 0 s ≤ b ↔ 0 ≤ -1 * s + 2 * x * b + m) ∧ (b ≤ bent (-(1 / (2 * x) * m)) (1 / (2 * x)) 0 s ↔ 0 ≤ 1 * s + -(2 * x) * b + -m) := by
  have h2 : 0 < 2 * x := Rat.mul_pos (by decide) hx
  have e1 : 1 / (2 * x) * (2 * x) = 1 := div_pos' h2
  have e : 2 * x * bent (-(1 / (2 * x) * m)) (1 / (2 * x)) 0 s = s - m := by
    unfold bent
    generalize 1 / (2 * x) = u at e1 ⊢
    have : 2 * x * (-(u * m) + s * (u + 0 * s)) = (u * (2 * x)) * (s - m) := by grind
    rw [this, e1]
    grind
  generalize bent (-(1 / (2 * x) * m)) (1 / (2 * x)) 0 s = t at e ⊢
  constructor
  · constructor
    · intro h
      have := Rat.mul_le_mul_of_nonneg_left h (Rat.le_of_lt h2)
      grind
    · intro h
      exact Rat.le_of_mul_le_mul_left (c := 2 * x) (by grind) h2
  · constructor
    · intro h
      have := Rat.mul_le_mul_of_nonneg_left h (Rat.le_of_lt h2)
      grind
    · intro h
      exact Rat.le_of_mul_le_mul_left (c := 2 * x) (by grind) h2
theorem level_bound {c s b : Rat} : bent c 0 0 s = c := by
  unfold bent
  grind

/-! ### how the program decides an ask -/
def steep : Ask → Bool
  | .dives x _ => decide (x = 0)
  | .climbs x _ => decide (x = 0)
  | _ => false
def least : Ask → Bool
  | .under _ _ _ => true
  | .dives _ _ => true
  | .slow _ => true
  | _ => false
/-- the numbers of the bound -/
def coef : Ask → Rat × Rat × Rat
  | .over x y w => (-(Rat.divInt y w / (Rat.divInt x w * Rat.divInt x w)), 1 / Rat.divInt x w, 0)
  | .under x y w => (-(Rat.divInt y w / (Rat.divInt x w * Rat.divInt x w)), 1 / Rat.divInt x w, 0)
  | .dives x m => (-(1 / (2 * x) * m), 1 / (2 * x), 0)
  | .climbs x m => (-(1 / (2 * x) * m), 1 / (2 * x), 0)
  | .quick b => (b, 0, 0)
  | .slow b => (b, 0, 0)
def boundOf (k : Ask) (s : Rat) : Rat := bent (coef k).1 (coef k).2.1 (coef k).2.2 s
theorem divInt_pos {x w : Int} (hx : 0 < x) (hw : 0 < w) : 0 < Rat.divInt x w := by
  rw [← num_pos, ← red_num hw]
  have hd : ((Nat.gcd x.natAbs w.natAbs : Nat) : Int) ∣ x := Int.ofNat_dvd_left.mpr (Nat.gcd_dvd_left _ _)
  exact Int.ediv_pos_of_pos_of_dvd hx (Int.le_of_lt (gcd_pos hw)) hd
theorem not_lt_dec {p q : Rat} {P : Prop} [Decidable P] (h : q ≤ p ↔ P) : (!decide (p < q)) = decide P := by
  by_cases c : q ≤ p
  · rw [decide_eq_true (h.mp c), decide_eq_false (Rat.not_lt.mpr c)]
    rfl
  · rw [decide_eq_false fun z => c (h.mpr z), decide_eq_true (Rat.not_le.mp c)]
    rfl
theorem done_dives0 {m s b : Rat} : (!decide (m < s)) = decide ((Ask.dives 0 m).done s b) := by
  refine not_lt_dec ?_
  show s ≤ m ↔ 0 ≤ -1 * s + 2 * 0 * b + m
  constructor <;> intro h <;> grind
theorem done_climbs0 {m s b : Rat} : (!decide (s < m)) = decide ((Ask.climbs 0 m).done s b) := by
  refine not_lt_dec ?_
  show m ≤ s ↔ 0 ≤ 1 * s + -(2 * 0) * b + -m
  constructor <;> intro h <;> grind
theorem pos_of {x : Rat} (h : 0 ≤ x) (hs : decide (x = 0) = false) : 0 < x := by
  have : x ≠ 0 := of_decide_eq_false hs
  grind
theorem done_least {B : Nat} {k : Ask} {s b : Rat} (hk : k.ok B) (hs : steep k = false) (hl : least k = true) : (!decide (b < boundOf k s)) = decide (k.done s b) := by
  refine not_lt_dec ?_
  cases k with
  | under x y w => exact (place_bound (divInt_pos hk.1.1 hk.1.2.1)).2
  | dives x m => exact (slope_bound (pos_of hk.1 hs)).1
  | slow c =>
    show bent c 0 0 s ≤ b ↔ 0 ≤ 0 * s + 1 * b + -c
    rw [level_bound (b := b)]
    constructor <;> intro h <;> grind
  | over x y w => cases hl
  | climbs x m => cases hl
  | quick c => cases hl
theorem done_most {B : Nat} {k : Ask} {s b : Rat} (hk : k.ok B) (hs : steep k = false) (hl : least k = false) : (!decide (boundOf k s < b)) = decide (k.done s b) := by
  refine not_lt_dec ?_
  cases k with
  | over x y w => exact (place_bound (divInt_pos hk.1.1 hk.1.2.1)).1
  | climbs x m => exact (slope_bound (pos_of hk.1 hs)).2
  | quick c =>
    show b ≤ bent c 0 0 s ↔ 0 ≤ 0 * s + -1 * b + c
    rw [level_bound (b := b)]
    constructor <;> intro h <;> grind
  | under x y w => cases hl
  | dives x m => cases hl
  | slow c => cases hl
theorem coef_bd {k : Ask} (hk : k.ok 300) (hs : steep k = false) : Bd 1000 (coef k).1 ∧ Bd 1000 (coef k).2.1 ∧ Bd 1000 (coef k).2.2 := by
  have place : ∀ {x y w : Int}, Pl x y w ∧ Bi 300 x ∧ Bi 300 y ∧ Bi 300 w → Bd 1000 (-(Rat.divInt y w / (Rat.divInt x w * Rat.divInt x w))) ∧ Bd 1000 (1 / Rat.divInt x w) ∧ Bd 1000 0 := fun {x y w} h => by
    have px := divInt_pos h.1.1 h.1.2.1
    have bx := Bd.of h.1.2.1 h.2.1 h.2.2.2
    have yb := Bd.of h.1.2.1 h.2.2.1 h.2.2.2
    exact ⟨(Bd.neg (Bd.div yb (Bd.mul bx bx) (Rat.mul_pos px px))).mono (by decide), (Bd.div Bd.one bx px).mono (by decide), Bd.zero.mono (by decide)⟩
  have slope : ∀ {x m : Rat}, 0 ≤ x ∧ Bd 300 x ∧ Bd 300 m → decide (x = 0) = false → Bd 1000 (-(1 / (2 * x) * m)) ∧ Bd 1000 (1 / (2 * x)) ∧ Bd 1000 0 := fun {x m} h e => by
    have hb := Bd.div Bd.one (Bd.mul Bd.two h.2.1) (Rat.mul_pos two_pos (pos_of h.1 e))
    exact ⟨(Bd.neg (Bd.mul hb h.2.2)).mono (by decide), hb.mono (by decide), Bd.zero.mono (by decide)⟩
  cases k with
  | over x y w => exact place hk
  | under x y w => exact place hk
  | dives x m => exact slope hk hs
  | climbs x m => exact slope hk hs
  | quick b => exact ⟨hk.2.mono (by decide), Bd.zero.mono (by decide), Bd.zero.mono (by decide)⟩
  | slow b => exact ⟨hk.2.mono (by decide), Bd.zero.mono (by decide), Bd.zero.mono (by decide)⟩
theorem bent_bd {c d e s : Rat} (hc : Bd 1000 c) (hd : Bd 1000 d) (he : Bd 1000 e) (hs : Bd 1000 s) : Bd 6000 (bent c d e s) :=
  (Bd.add hc (Bd.mul hs (Bd.add hd (Bd.mul he hs)))).mono (by decide)
end K17
/-! Values in the heap, reading lemmas, promises in short. -/
namespace K17
set_option linter.all false
set_option maxRecDepth 100000
set_option maxHeartbeats 4000000
open PySem PySem.Spec PyProof.Rows L2

/-! ### one heap after another -/
/-- nothing but the object at a has changed of what was there -/
def Go (a : Addr) (H H' : Hp) : Prop := ∀ b o, H b = some o → b ≠ a → H' b = some o
/-- the vat at a: a list of three whole numbers -/
def VatAt (H : Hp) (a : Addr) : Prop := ∃ x y z : Int, H a = some (.lst [.int x, .int y, .int z])
/-- what is no list is kept -/
def Nx (H H' : Hp) : Prop := ∀ b o, H b = some o → (∀ xs, o ≠ .lst xs) → H' b = some o
theorem Nx.refl (H : Hp) : Nx H H := fun _ _ h _ => h
theorem Nx.trans {H H1 H2 : Hp} (a : Nx H H1) (b : Nx H1 H2) : Nx H H2 := fun c o h n => b c o (a c o h n) n
theorem Nx.of {H H1 : Hp} (a : Same H H1) : Nx H H1 := fun c o h _ => a c o h
theorem Nx.go {H H1 : Hp} {a : Addr} (v : VatAt H a) (g : Go a H H1) : Nx H H1 := fun c o h n => g c o h fun e => by
  obtain ⟨x, y, z, q⟩ := v
  rw [e, q] at h
  exact n _ (Option.some.inj h).symm
theorem Go.refl {a : Addr} (H : Hp) : Go a H H := fun _ _ h _ => h
theorem Go.trans {a : Addr} {H H1 H2 : Hp} (p : Go a H H1) (q : Go a H1 H2) : Go a H H2 := fun c o h n => q c o (p c o h n) n
theorem Go.of {a : Addr} {H H1 : Hp} (p : Same H H1) : Go a H H1 := fun c o h _ => p c o h
theorem same_new {H : Hp} {p : Addr} {o : HO} (h : H p = none) : Same H (upd H p o) := fun b x e => by
  rw [upd_ne (ne_of_none e h)]
  exact e
theorem go_upd {H : Hp} {a : Addr} {o : HO} : Go a H (upd H a o) := fun b x e n => by
  rw [upd_ne n]
  exact e
theorem VatAt.same {H H' : Hp} {a : Addr} (v : VatAt H a) (e : Same H H') : VatAt H' a :=
  let ⟨x, y, z, q⟩ := v
  ⟨x, y, z, e _ _ q⟩

theorem VatAt.back {H H' : Hp} {a : Addr} (e : Same H H') (v : VatAt H a) : VatAt H' a := v.same e
theorem Go.back {a : Addr} {H H1 H2 : Hp} (q : Go a H1 H2) (p : Go a H H1) : Go a H H2 := p.trans q
theorem Go.backS {a : Addr} {H H1 H2 : Hp} (q : Same H1 H2) (p : Go a H H1) : Go a H H2 := p.trans (Go.of q)
theorem ls_go {H H' : Hp} {a l : Addr} {o : HO} (g : Go a H H') (n : l ≠ a) (h : H l = some o) : H' l = some o := g _ _ h n
theorem sq_back {K : PySem.W.Frag} {H H' : Hp} {a : Addr} {xs : List V} (e : Same H H') (h : SqL K H a xs) : SqL K H' a xs := e.seq h

/-! ### values -/
section
variable {K : PySem.W.Frag} {H H' : Hp} {v : V} {xs : List V} {q : Rat}
/-- v is a tuple of xs -/
def Tp (K : PySem.W.Frag) (H : Hp) (v : V) (xs : List V) : Prop := ∃ a, v = .ref a ∧ SqT K H a xs
/-- v is a fraction -/
def Fr (K : PySem.W.Frag) (H : Hp) (v : V) (q : Rat) : Prop := Tp K H v [.int q.num, .int (q.den : Int)]
theorem Tp.nx (h : Tp K H v xs) (n : Nx H H') : Tp K H' v xs := by
  obtain ⟨a, rfl, s⟩ := h
  refine ⟨a, rfl, ?_⟩
  rcases s with (s | ⟨o, s⟩) | s
  · exact .inl (.inl (n _ _ s fun _ e => nomatch e))
  · exact .inl (.inr ⟨o, n _ _ s fun _ e => nomatch e⟩)
  · exact .inr s
theorem Fr.nx (h : Fr K H v q) (n : Nx H H') : Fr K H' v q := Tp.nx h n
theorem Fr.back (n : Nx H H') (h : Fr K H v q) : Fr K H' v q := Tp.nx h n
theorem Tp.back (n : Nx H H') (h : Tp K H v xs) : Tp K H' v xs := Tp.nx h n
theorem Fr.tp (h : Fr K H v q) : Tp K H v [.int q.num, .int (q.den : Int)] := h
theorem Nx.gov {a : Addr} (g : Go a H H') (v : VatAt H a) : Nx H H' := Nx.go v g
theorem Same.back {H0 : Hp} (e : Same H H') (h : Same H0 H) : Same H0 H' := h.trans e
theorem tp_of {p : Addr} (h : H p = some (.tup xs)) : Tp K H (.ref p) xs := ⟨p, rfl, SqT.of h⟩
/-- a jet: slope s, bend b -/
def JetAt (K : PySem.W.Frag) (H : Hp) (v : V) (s b : Rat) : Prop := ∃ x y, Tp K H v [x, y] ∧ Fr K H x s ∧ Fr K H y b
theorem JetAt.nx {s b : Rat} (h : JetAt K H v s b) (n : Nx H H') : JetAt K H' v s b :=
  let ⟨x, y, a, c, d⟩ := h
  ⟨x, y, a.nx n, c.nx n, d.nx n⟩
theorem JetAt.back {s b : Rat} (n : Nx H H') (h : JetAt K H v s b) : JetAt K H' v s b := h.nx n
/-- an ask -/
def AskAt (K : PySem.W.Frag) (H : Hp) (v : V) : Ask → Prop
  | .over x y w => ∃ p, Tp K H v [.str "over", p] ∧ Tp K H p [.int x, .int y, .int w]
  | .under x y w => ∃ p, Tp K H v [.str "under", p] ∧ Tp K H p [.int x, .int y, .int w]
  | .dives x m => ∃ p r, Tp K H v [.str "dives", p, r] ∧ Fr K H p x ∧ Fr K H r m
  | .climbs x m => ∃ p r, Tp K H v [.str "climbs", p, r] ∧ Fr K H p x ∧ Fr K H r m
  | .quick b => ∃ p, Tp K H v [.str "quick", p] ∧ Fr K H p b
  | .slow b => ∃ p, Tp K H v [.str "slow", p] ∧ Fr K H p b
theorem AskAt.nx {k : Ask} (h : AskAt K H v k) (n : Nx H H') : AskAt K H' v k := by
  cases k with
  | over x y w => obtain ⟨p, a, b⟩ := h; exact ⟨p, a.nx n, b.nx n⟩
  | under x y w => obtain ⟨p, a, b⟩ := h; exact ⟨p, a.nx n, b.nx n⟩
  | dives x m => obtain ⟨p, r, a, b, c⟩ := h; exact ⟨p, r, a.nx n, b.nx n, c.nx n⟩
  | climbs x m => obtain ⟨p, r, a, b, c⟩ := h; exact ⟨p, r, a.nx n, b.nx n, c.nx n⟩
  | quick b => obtain ⟨p, a, c⟩ := h; exact ⟨p, a.nx n, c.nx n⟩
  | slow b => obtain ⟨p, a, c⟩ := h; exact ⟨p, a.nx n, c.nx n⟩
theorem AskAt.back {k : Ask} (n : Nx H H') (h : AskAt K H v k) : AskAt K H' v k := h.nx n
end

/-! ### readings, one lemma a form -/
section
variable {K : PySem.W.Frag} {σ : L2.St} {H : Hp} {v x y : V} {Q : VK} {QT : Bool → Hp → Prop} {QA : List V → Hp → Prop} {D : Ends} {ta tb te : TE} {tt tu : TT} {r : R2} {xs : List V} {i j : Nat}
theorem r_ret (h : te σ H D.rt) : tRet te D σ H := h
theorem r_drop (h : te σ H fun _ H1 => D.nx σ H1) : tDrop te D σ H := h
theorem r_seq {t u : TS} (h : t { D with nx := u D } σ H) : tSeq t u D σ H := h
theorem r_next (h : D.nx σ H) : tNext D σ H := h
theorem r_asg {g : TG} (h : te σ H fun x H1 => g x σ H1 D.nx) : tAsg te g D σ H := h
theorem r_ifS {t u : TS} (h : tt σ H fun b H1 => if b = true then t D σ H1 else u D σ H1) : tIfS tt t u D σ H := h
theorem r_par {a : TA} (h : a σ H fun vs H1 => ∃ v w, vs = [v, w] ∧ D.nx ((σ.set i (some v)).set j (some w)) H1) : tPar i j a D σ H := h
theorem r_par2 {P : V → V → Prop} (h : P x y) : ∃ v w, [x, y] = [v, w] ∧ P v w := ⟨x, y, rfl, h⟩
theorem r_name {R : L2.St → Hp → Prop} (h : R (σ.set i (some v)) H) : gName i v σ H R := h
theorem r_gtup {R : L2.St → Hp → Prop} {n : Nat} {t : TGs} (h : Tp K H v xs) (e : xs.length = n) (q : t xs σ H R) : gTup K n t v σ H R := by
  obtain ⟨a, rfl, s⟩ := h
  exact ⟨a, xs, rfl, s, e, q⟩
theorem r_gcons {R : L2.St → Hp → Prop} {t : TG} {u : TGs} (h : t x σ H fun σ' H' => u xs σ' H' R) : gCons t u (x :: xs) σ H R := ⟨x, xs, rfl, h⟩
theorem r_gnil {R : L2.St → Hp → Prop} (h : R σ H) : gNil [] σ H R := ⟨rfl, h⟩
theorem r_var (e : σ[i]? = some (some v)) (h : Q v H) : tVar i σ H Q := ⟨v, e, h⟩
theorem r_c (h : Q v H) : tC v σ H Q := h
theorem r_op (h : ta σ H fun x H1 => tb σ H1 fun y H2 => r x y H2 Q) : tOp r ta tb σ H Q := h
theorem r_un {r : V → Hp → VK → Prop} (h : ta σ H fun x H1 => r x H1 Q) : tUn r ta σ H Q := h
theorem r_I0 {g : Int → Int → V} {i j : Int} (h : Q (g i j) H) : rI0 g (.int i) (.int j) H Q := ⟨i, j, rfl, rfl, h⟩
theorem r_I {C : Int → Int → Prop} {g : Int → Int → V} {i j : Int} (c : C i j) (h : Q (g i j) H) : rI C g (.int i) (.int j) H Q := ⟨i, j, rfl, rfl, c, h⟩
theorem r_mulW {B C : Nat} {g : Int → Int → V} {i j : Int} (hi : Bi B i) (hj : Bi C j) (hs : B + C ≤ 900000) (h : Q (g i j) H) : rI CMulW g (.int i) (.int j) H Q :=
  ⟨i, j, rfl, rfl, wide_mul (hi.mono (Nat.le_add_right B 1)) (hj.mono (Nat.le_add_right C 1)) (by omega) (by omega) (by omega), h⟩
/-- i // j -/
theorem r_divW {B : Nat} {g : Int → Int → V} {i j : Int} (h0 : 0 < j) (hj : Bi B j) (hs : B ≤ 8999) (h : Q (g i j) H) : rI CDivW g (.int i) (.int j) H Q :=
  ⟨i, j, rfl, rfl, wide_div h0 (hj.mono (Nat.le_add_right B 1)) (by omega) (by omega), h⟩
theorem r_U {g : Int → V} {i : Int} (h : Q (g i) H) : rU g (.int i) H Q := ⟨i, rfl, h⟩
theorem r_ixT {p : Int} (h : Tp K H x xs) (e : atI xs p = some v) (q : Q v H) : rIxT K x (.int p) H Q := by
  obtain ⟨a, rfl, s⟩ := h
  exact ⟨a, xs, p, v, rfl, rfl, s, e, q⟩
theorem r_ixL {p : Int} {a : Addr} (h : SqL K H a xs) (e : atI xs p = some v) (q : Q v H) : rIxL K (.ref a) (.int p) H Q := ⟨a, xs, p, v, rfl, rfl, h, e, q⟩
theorem r_call {sp : Sp} {dvs : List V} {E : XK} {t : TA} (h : t σ H fun vs H1 => sp (vs ++ dvs) H1 Q E) : tCall sp dvs E t σ H Q := h
theorem r_cb {rc : List V → Hp → VK → Prop} {t : TA} (h : t σ H fun vs H1 => rc vs H1 Q) : tCB rc t σ H Q := h
theorem r_cons {t : TA} (h : te σ H fun x H1 => t σ H1 fun xs H2 => QA (x :: xs) H2) : tCons te t σ H QA := h
theorem r_nil (h : QA [] H) : tNil σ H QA := h
/-- a new tuple, a new list of xs -/
def NewT (xs : List V) (H : Hp) (Q : VK) : Prop := xs.length ≤ sizeLine ∧ ∀ p, H p = none → Q (.ref p) (upd H p (.tup xs))
def NewL (xs : List V) (H : Hp) (Q : VK) : Prop := xs.length ≤ sizeLine ∧ ∀ p, H p = none → Q (.ref p) (upd H p (.lst xs))
theorem r_tup {t : TA} (h : t σ H fun xs H1 => NewT xs H1 Q) : tTup t σ H Q := h
theorem r_lst {t : TA} (h : t σ H fun xs H1 => NewL xs H1 Q) : tLst t σ H Q := h
theorem r_newT (hl : xs.length ≤ 1000) (h : ∀ p H', H p = none → Same H H' → H' p = some (.tup xs) → Q (.ref p) H') : NewT xs H Q :=
  ⟨Nat.le_trans hl (by decide), fun p n => h p _ n (same_new n) upd_same⟩
theorem r_newL (hl : xs.length ≤ 1000) (h : ∀ p H', H p = none → Same H H' → H' p = some (.lst xs) → Q (.ref p) H') : NewL xs H Q :=
  ⟨Nat.le_trans hl (by decide), fun p n => h p _ n (same_new n) upd_same⟩
theorem r_if (h : tt σ H fun c H1 => if c = true then ta σ H1 Q else tb σ H1 Q) : tIf tt ta tb σ H Q := h
theorem r_T {b : Bool} {A B : Prop} (e : b = true) (h : A) : if b = true then A else B := by rw [if_pos e]; exact h
theorem r_F {b : Bool} {A B : Prop} (e : b = false) (h : B) : if b = true then A else B := by rw [if_neg (by rw [e]; decide)]; exact h
theorem r_ite {b : Bool} {A B : Prop} (h1 : b = true → A) (h2 : b = false → B) : if b = true then A else B := by
  cases b with
  | true => exact h1 rfl
  | false => exact h2 rfl
theorem r_test (h : te σ H fun x H1 => ∃ c, x = .bl c ∧ QT c H1) : tTest te σ H QT := h
theorem r_B (h : te σ H fun x H1 => ∃ c, x = .bl c ∧ QT c H1) : tB te σ H QT := h
theorem r_bl {b : Bool} {P : Bool → Prop} (h : P b) : ∃ c, V.bl b = .bl c ∧ P c := ⟨b, rfl, h⟩
theorem r_and (h : tt σ H fun c H1 => if c = true then tu σ H1 QT else QT false H1) : tAnd tt tu σ H QT := h
theorem r_or (h : tt σ H fun c H1 => if c = true then QT true H1 else tu σ H1 QT) : tOr tt tu σ H QT := h
theorem r_not (h : tt σ H fun c H1 => QT (!c) H1) : tNot tt σ H QT := h
theorem r_andV (h : ta σ H fun x H1 => ∃ c, x = .bl c ∧ if c = true then tb σ H1 Q else Q (.bl false) H1) : tAndV ta tb σ H Q := h
theorem r_orV (h : ta σ H fun x H1 => ∃ c, x = .bl c ∧ if c = true then Q (.bl true) H1 else tb σ H1 Q) : tOrV ta tb σ H Q := h
theorem r_notV (h : ta σ H fun x H1 => ∃ c, x = .bl c ∧ Q (.bl (!c)) H1) : tNotV ta σ H Q := h
theorem r_eq (hs : scal x y = true) (h : Q (.bl (decide (x = y))) H) : rEq x y H Q := ⟨hs, h⟩
theorem r_ne (hs : scal x y = true) (h : Q (.bl (!decide (x = y))) H) : rNe x y H Q := ⟨hs, h⟩
theorem r_inT (h : Tp K H y xs) (hx : flatV x = true) (hf : xs.all flatV = true) (q : Q (.bl (inV x xs)) H) : rIn K false x y H Q := by
  obtain ⟨a, rfl, s⟩ := h
  exact ⟨a, xs, rfl, .inr s, hx, hf, q⟩
theorem r_niT (h : Tp K H y xs) (hx : flatV x = true) (hf : xs.all flatV = true) (q : Q (.bl (!inV x xs)) H) : rIn K true x y H Q := by
  obtain ⟨a, rfl, s⟩ := h
  exact ⟨a, xs, rfl, .inr s, hx, hf, q⟩
end

theorem atI_zero (x : V) (xs : List V) : atI (x :: xs) 0 = some x := atI_nat (j := 0) rfl
/-! ### built-in calls, by names -/
section
variable {X : Cx}
def rLen (K : PySem.W.Frag) : List V → Hp → VK → Prop := fun xs H Q => ∃ p ys, xs = [.ref p] ∧ (SqL K H p ys ∨ SqT K H p ys) ∧ Q (.int ys.length) H
theorem cl_len : CallR X (.builtin "len") (rLen X.K) := call_len_seq
def rAbs : List V → Hp → VK → Prop := fun xs H Q => ∃ i, xs = [.int i] ∧ Q (.int (if i < 0 then -i else i)) H
theorem cl_abs : CallR X (.builtin "abs") rAbs := call_abs
def rMax2 : List V → Hp → VK → Prop := fun xs H Q => ∃ i j, xs = [.int i, .int j] ∧ Q (.int (if j > i then j else i)) H
theorem cl_max (hc : X.calm = true) : CallR X (.builtin "max") rMax2 := call_max2 hc
def rMin2 : List V → Hp → VK → Prop := fun xs H Q => ∃ i j, xs = [.int i, .int j] ∧ Q (.int (if j < i then j else i)) H
theorem cl_min (hc : X.calm = true) : CallR X (.builtin "min") rMin2 := call_min2 hc
def rInt1 : List V → Hp → VK → Prop := fun xs H Q => (∃ i, xs = [.int i] ∧ Q (.int i) H) ∨ ∃ k, xs = [.bl k] ∧ Q (.int (if k then 1 else 0)) H
theorem cl_int : CallR X (.type "int") rInt1 := call_int1
def rTupOf (K : PySem.W.Frag) : List V → Hp → VK → Prop := fun xs H Q => ∃ p ys, xs = [.ref p] ∧ ((SqL K H p ys ∧ ∀ l, H l = none → Q (.ref l) (upd H l (.tup ys))) ∨ (SqT K H p ys ∧ Q (.ref p) H))
theorem cl_tuple : CallR X (.type "tuple") (rTupOf X.K) := call_tuple_of
def rDivmod : List V → Hp → VK → Prop := fun xs H Q => ∃ i j, xs = [.int i, .int j] ∧ CDivP i j ∧ ∀ p, H p = none → Q (.ref p) (upd H p (.tup [.int (i / j), .int (i % j)]))
theorem cl_divmod : CallR X (.builtin "divmod") rDivmod := call_divmodW
end
section
variable {X : Cx}
def rIsNon : R2 := fun x y H Q => y = .non ∧ Q (.bl (decide (x = .non))) H
theorem op_isNon : OpR X (compareOp .Is) rIsNon := op_isN
theorem r_isNon {x : V} {H : Hp} {Q : VK} (h : Q (.bl (decide (x = .non))) H) : rIsNon x .non H Q := ⟨rfl, h⟩
theorem r_isBl {a b : Bool} {H : Hp} {Q : VK} (h : Q (.bl (decide (a = b))) H) : rIsB (.bl a) (.bl b) H Q := ⟨a, b, rfl, rfl, h⟩
end
section
variable {K : PySem.W.Frag} {H : Hp} {Q : VK} {x : V} {xs : List V} {i j : Int}
theorem r_lenT (h : Tp K H x xs) (q : Q (.int xs.length) H) : rLen K [x] H Q := by
  obtain ⟨a, rfl, s⟩ := h
  exact ⟨a, xs, rfl, .inr s, q⟩
theorem r_lenL {a : Addr} (h : SqL K H a xs) (q : Q (.int xs.length) H) : rLen K [.ref a] H Q := ⟨a, xs, rfl, .inl h, q⟩
theorem r_abs (q : Q (.int (i.natAbs : Nat)) H) : rAbs [.int i] H Q := ⟨i, rfl, by
  rw [show (if i < 0 then -i else i) = ((i.natAbs : Nat) : Int) by split <;> omega]
  exact q⟩
theorem r_inL {y : Addr} (h : H y = some (.lst xs)) (hx : flatV x = true) (hf : xs.all flatV = true) (q : Q (.bl (inV x xs)) H) : rIn K false x (.ref y) H Q := ⟨y, xs, rfl, .inl (SqL.of h), hx, hf, q⟩
theorem ls_back {H' : Hp} {l : Addr} {o : HO} (e : Same H H') (h : H l = some o) : H' l = some o := e _ _ h
theorem r_max (q : Q (.int (if j > i then j else i)) H) : rMax2 [.int i, .int j] H Q := ⟨i, j, rfl, q⟩
theorem r_min (q : Q (.int (if j < i then j else i)) H) : rMin2 [.int i, .int j] H Q := ⟨i, j, rfl, q⟩
theorem r_int (q : Q (.int i) H) : rInt1 [.int i] H Q := .inl ⟨i, rfl, q⟩
theorem r_mod {g : Int → Int → V} (h0 : 0 < j) (q : Q (g i j) H) : rI (fun _ j => 0 < j) g (.int i) (.int j) H Q := ⟨i, j, rfl, rfl, h0, q⟩
theorem r_while {c : TT} {tb : TS} {D : Ends} {σ : L2.St} (W : Nat → L2.St → Hp → Prop) (m : Nat) (h0 : W m σ H) (hs : ∀ m σ H, W m σ H → c σ H fun b H1 => if b = true then ∃ N : L2.St → Hp → Prop, (∀ σ' H', N σ' H' → ∃ m', m' < m ∧ W m' σ' H') ∧ tb { D with nx := N, ct := N, bk := D.nx } σ H1 else D.nx σ H1) : tWhile c tb D σ H :=
  ⟨W, ⟨m, h0⟩, hs⟩
theorem r_tupOfL {a : Addr} (h : H a = some (.lst xs)) (k : ∀ p H', H p = none → Same H H' → H' p = some (.tup xs) → Q (.ref p) H') : rTupOf K [.ref a] H Q :=
  ⟨a, xs, rfl, .inl ⟨SqL.of h, fun p n => k p _ n (same_new n) upd_same⟩⟩
theorem r_divmod (h0 : 0 < j) (h1 : j < 1073741824) (k : ∀ p H', H p = none → Same H H' → H' p = some (.tup [.int (i / j), .int (i % j)]) → Q (.ref p) H') : rDivmod [.int i, .int j] H Q := by
  refine ⟨i, j, rfl, ⟨h0, ?_⟩, fun p n => k p _ n (same_new n) upd_same⟩
  have e : j.natAbs.log2 / 30 = 0 := by
    have : j.natAbs.log2 < 30 := (Nat.log2_lt (by omega)).mpr (by omega)
    omega
  show (decide ((if j == 0 then 0 else j.natAbs.log2 / 30 + 1) > 300) && _) = false
  rw [e, show decide ((if j == 0 then 0 else 0 + 1) > 300) = false from decide_eq_false (by split <;> omega), Bool.false_and]
theorem ty_tup (h : Tp K H x xs) : TyX K H x (.type "tuple") := by
  obtain ⟨a, rfl, (s | ⟨o, s⟩) | ⟨o, its, n, hl, hc, _⟩⟩ := h
  · exact .base (.tup s)
  · exact .fTuple s
  · exact .kTuple hl hc
theorem r_isi_tt (h : Tp K H x xs) (q : Q (.bl true) H) : rIsi K [x, .ty "tuple"] H Q := ⟨x, .ty "tuple", .type "tuple", .type "tuple", true, rfl, .ty _, ty_tup h, kit_ty (by decide +kernel), q⟩
theorem r_isi_ii (q : Q (.bl true) H) : rIsi K [.int i, .ty "int"] H Q := ⟨.int i, .ty "int", .type "int", .type "int", true, rfl, .ty _, .base (.int i), kit_ty (by decide +kernel), q⟩
theorem r_isi_ib (q : Q (.bl false) H) : rIsi K [.int i, .ty "bool"] H Q := ⟨.int i, .ty "bool", .type "int", .type "bool", false, rfl, .ty _, .base (.int i), kit_ty (by decide +kernel), q⟩
theorem r_isi_ss {z : Str} (q : Q (.bl true) H) : rIsi K [.str z, .ty "str"] H Q := ⟨.str z, .ty "str", .type "str", .type "str", true, rfl, .ty _, .base (.str z), kit_ty (by decide +kernel), q⟩
theorem r_all {a : Addr} {bs : List Bool} (h : H a = some (.lst (bs.map V.bl))) (q : Q (.bl (bs.all id)) H) : rAll K [.ref a] H Q := ⟨a, bs, rfl, SqL.of h, q⟩
/-- a list all of whose items are the truth values f i -/
theorem bools_of {ys : List V} (f : Nat → Bool) (h : ∀ (i : Nat) (z : V), ys[i]? = some z → z = V.bl (f i)) : ys = ((List.range ys.length).map f).map V.bl := by
  apply List.ext_getElem?
  intro i
  rw [List.map_map, List.getElem?_map]
  by_cases hi : i < ys.length
  · rw [List.getElem?_eq_getElem hi, h i _ (List.getElem?_eq_getElem hi), List.getElem?_range hi]
    rfl
  · rw [List.getElem?_eq_none (by omega), List.getElem?_eq_none (by simp; omega)]
    rfl
theorem r_allF {a : Addr} {ys : List V} (f : Nat → Bool) (h : H a = some (.lst ys)) (hy : ∀ (i : Nat) (z : V), ys[i]? = some z → z = V.bl (f i)) (q : Q (.bl ((List.range ys.length).all f)) H) : rAll K [.ref a] H Q := by
  refine r_all (bs := (List.range ys.length).map f) (by rw [← bools_of f hy]; exact h) ?_
  rw [List.all_map]
  exact q
end
theorem cx_K {CX : CXT} {P : Program} {w : World} {K : PySem.W.Frag} {mg : Str → Option Value} {base : Heap} {N : List Str} {qual : Str} {scope : Scope} {f : Addr} {cd : Value} {A : Around} {outer : List Env} {s : Shared} {H : Hp} {E : XK} :
    (cxOf CX P w K mg base N qual scope f cd A outer s H E).K = K := rfl
/-! ### slices, lists changed in their place, products by written numbers -/
section
variable {K : PySem.W.Frag} {σ : L2.St} {H : Hp} {Q : VK} {te : TE} {tl th : TO} {xs ys : List V} {i j : Int}
theorem r_sl {r : V → Option Int → Option Int → Hp → VK → Prop} (h : te σ H fun x H1 => tl σ H1 fun l H2 => th σ H2 fun u H3 => r x l u H3 Q) : L2.tSl r te tl th σ H Q := h
theorem r_part {QO : Option Int → Hp → Prop} (h : te σ H fun x H1 => ∃ i, x = .int i ∧ QO (some i) H1) : tPart te σ H QO := h
theorem r_nopart {QO : Option Int → Hp → Prop} (h : QO none H) : tNoPart σ H QO := h
theorem r_some {P : Int → Prop} (h : P i) : ∃ k, V.int i = .int k ∧ P k := ⟨i, rfl, h⟩
theorem r_slL {a : Addr} {lo hi : Option Int} (h : SqL K H a xs) (k : ∀ p H', H p = none → Same H H' → H' p = some (.lst (cutV xs lo hi)) → Q (.ref p) H') : rSlL K (.ref a) lo hi H Q := ⟨a, xs, rfl, h, fun p n => k p _ n (same_new n) upd_same⟩
theorem r_mulL {g : Int → Int → V} (c : CMul i j) (h : Q (g i j) H) : rI CMul g (.int i) (.int j) H Q := ⟨i, j, rfl, rfl, c, h⟩
theorem r_powL {g : Int → Int → V} (c : CPow i j) (h : Q (g i j) H) : rI CPow g (.int i) (.int j) H Q := ⟨i, j, rfl, rfl, c, h⟩
theorem new_ne {a l : Addr} (v : VatAt H a) (n : H l = none) : l ≠ a := fun e => by
  obtain ⟨x, y, z, q⟩ := v
  rw [e, q] at n
  cases n
theorem r_cat {a b : Addr} (h : H a = some (.lst xs)) (h' : H b = some (.lst ys)) (hl : xs.length + ys.length ≤ 1000) (k : ∀ p H', H p = none → Same H H' → H' p = some (.lst (xs ++ ys)) → Q (.ref p) H') : rCat (.ref a) (.ref b) H Q :=
  ⟨a, b, xs, ys, rfl, rfl, h, h', Nat.le_trans hl (by decide), fun p n => k p _ n (same_new n) upd_same⟩
theorem r_gsub {to ti : TE} {t : TSet} {v : V} {R : L2.St → Hp → Prop} (h : to σ H fun o H1 => ti σ H1 fun i H2 => t o i v H2 fun H3 => R σ H3) : gSub to ti t v σ H R := h
theorem r_setL {p : Addr} {v : V} {k : Int} {j : Nat} {R : Hp → Prop} (h : H p = some (.lst xs)) (e : ixN xs.length k = some j) (q : ∀ H', Go p H H' → H' p = some (.lst (xs.set j v)) → R H') : rSetL (.ref p) (.int k) v H R :=
  ⟨p, xs, k, j, rfl, rfl, h, e, q _ go_upd upd_same⟩
end

/-! ### a def of the text, a promise that it keeps -/
/-- the def st of the text stands under the name x -/
def Df (K : PySem.W.Frag) (mg : Str → Option Value) (x : Str) (st : Stmt) : Prop := ∃ f fd, Fun K x x st f fd ∧ mg x = some (.ref f)
/-- what stands under the name x keeps the promise sp -/
def Pr (P : Program) (w : World) (K : PySem.W.Frag) (mg : Str → Option Value) (base : Heap) (k : Nat) (x : Str) (ps : List Str) (sp : Sp) : Prop :=
  ∃ f fd, mg x = some (.ref f) ∧ PySem.W.keepIn K (.ref f) = true ∧ Binds K fd ps [] ∧ FnOk P w K mg base CX0 k f fd ps sp
section
variable {P : Program} {w : World} {K : PySem.W.Frag} {mg : Str → Option Value} {base : Heap}
theorem pr_of {x : Str} {st : Stmt} {N ps : List Str} {k : Nat} {sp : Sp} (D : Df K mg x st) (S : FnScope N ps (defScope st)) (len : ∀ vs H Q E, sp vs H Q E → vs.length = ps.length)
    (hb : ∀ (kV doc pm : Value) (an : Option Addr) (cdv ct : Value) (us : List Value), us.length = ps.length → bindArgs (PySem.W.fnOf x x (defArgs st) (defBody st) (defScope st) .none kV doc pm an cdv ct) ⟨us, []⟩ = pure (ps.zip us))
    (hbody : ∀ (f : Addr) (cdv : Value) (A : Around) (outer : List Env) (s : Shared) (H : Hp) (vs : List V) (Q : VK) (E : XK), Room k (A.deeper (envOfC x (defScope st) s.heap.objs.size f cdv)) → sp vs H Q E →
      ∃ t, PSs (cxOf CX0 P w K mg base N x (defScope st) f cdv A outer s H E).nox (defBody st) t ∧ t { nx := fun _ H' => Q .non H', rt := Q } (start N vs) H) : Pr P w K mg base (k + 1) x ps sp := by
  obtain ⟨f, fd, F, m⟩ := D
  exact ⟨f, fd, m, F.kp, F.binds hb, F.ok S len fun cdv A outer s H vs Q E => hbody f cdv A outer s H vs Q E⟩
end
section
variable {X : Cx} {x : Str} {p pos : Pos} {e : Expr} {es : List Expr} {t : TA} {k : Nat} {ps : List Str} {sp : Sp}
/-- f(e, ..) -/
theorem pe_c (G : Pr X.prog X.w X.K X.mg X.base k x ps sp) (hr : Room k X.A) (hg : Gl X x) (ha : PA X (e :: es) t) (hdb : (x == ("__debug__" : Str)) = false := by decide)
    (he : starEach (e :: es) X.env = (false, eval e X.env) :: starEach es X.env := by rfl) (hpl : (backTo pos (starEach es X.env)).any (·.1) = false := by rfl) : PE X (.Call (.Name x p) (e :: es) [] pos) (tCall sp [] E0 t) := by
  obtain ⟨f, fd, m, kp, b, F⟩ := G
  exact pe_call F hr hg m kp b .nil pass0 ha hdb he hpl
end
end K17
/-! Rules that the layer lacks: enumerate over a tuple, repr of a list of bools, calls by keywords alone, promises under a known stack of guards. -/
namespace K17
set_option linter.all false
set_option maxRecDepth 100000
set_option maxHeartbeats 4000000
open PySem PySem.Spec PyProof.Rows L2

section
variable {X : Cx}
theorem pe_never {e : Expr} : PE X e (fun _ _ _ => False) := ⟨fun _ _ _ _ _ _ h => h.elim⟩
end

/-! ### enumerate(t), t a tuple -/
theorem meets_enum1 {v : Value} {o : Obj} {Hh : Heap → Prop} (B : Begins v o Hh) : Meets (Builtin.«enumerate.__new__» ⟨[.type "enumerate", v], []⟩) (fun _ R s => Hh s.heap ∧
    R (.ok (.ret (.ref (s.heap.push o).objs.size))) { s with heap := (s.heap.push o).push { cls := .type "enumerate", data := .fields #[.none, .bool false, .ref s.heap.objs.size, rawInt 0, .none, .none] } }) :=
  .of_wp fun prog w A R s h => by
    obtain ⟨hp, g, d, tk, os⟩ := s
    obtain ⟨h1, h⟩ := h
    have hsub := sub_enumerate
    have q1 : ∀ {A' : Around} {E : Value → Shared → Prop} {Q : Value → Shared → Prop}, Q (.ref hp.objs.size) ⟨hp.push o, g, d, tk, os⟩ → wpAny (model prog w) A' (pyIter v) Q E ⟨hp, g, d, tk, os⟩ :=
      fun q => B.iter prog w _ _ ⟨hp, g, d, tk, os⟩ _ h1 q
    wp_walk using q1
    refine wpAny_stack_any fun st => wpAny_pure ?_
    split
    · rename_i c _ _ _ _ _
      cases (c == Value.type "enumerate")
      · wp_walk using q1
        exact ⟨_, rfl, h⟩
      · wp_walk using q1
        exact ⟨_, rfl, h⟩
    · wp_walk using q1
      exact ⟨_, rfl, h⟩
theorem call_enum1 {prog : Program} {w : World} {A : Around} {E : Value → Shared → Prop} {s : Shared} {v : Value} {o : Obj} {Hh : Heap → Prop} {Q : Value → Shared → Prop} (B : Begins v o Hh) (h1 : Hh s.heap)
    (h : ∀ h', IsEnum h' (s.heap.objs.size + 1) s.heap.objs.size 0 .none → h'.get? s.heap.objs.size = some o → (∀ b o, s.heap.get? b = some o → h'.get? b = some o) → Q (.ref (s.heap.objs.size + 1)) { s with heap := h' }) :
    wpAny (model prog w) A (call (.type "enumerate") [v]) Q E s := by
  have hz : (s.heap.push o).objs.size = s.heap.objs.size + 1 := Heap.size_push ..
  have he := Heap.get?_push_size (s.heap.push o) (o := { cls := .type "enumerate", data := .fields #[.none, .bool false, .ref s.heap.objs.size, rawInt 0, .none, .none] }) rfl
  rw [hz] at he
  refine callType_new F.called_enumerate (by decide) (F.typeCall_enumerate_1 _) (F.newCall_enumerate_1 _) (fun obj => F.args_object_init_2 obj _) F.entry_enumerate_new (meets_enum1 B) ⟨h1, ?_⟩
  show _ ∧ _
  rw [hz]
  exact ⟨⟨_, he, rfl⟩, h _ he (Heap.get?_push_of_some _ (Heap.get?_push_size _ B.free)) fun b u x => Heap.get?_push_of_some _ (Heap.get?_push_of_some _ x)⟩
/-- the tuple at a, each item in a new pair with its place -/
def IteT (K : PySem.W.Frag) (a : Addr) : It where
  go := fun i H => ∃ (xs : List V) (x : V), SqT K H a xs ∧ xs[i]? = some x
  yld := fun i H v H' => ∃ T x, v = .ref T ∧ H T = none ∧ H' = upd H T (.tup [.int (i : Nat), x]) ∧ ∀ xs, SqT K H a xs → xs[i]? = some x
  stop := fun i H => ∃ xs : List V, SqT K H a xs ∧ xs.length = i
theorem turn_enumT {P : Program} {w : World} {K : PySem.W.Frag} {elts : List Expr} {kk : Nat} {tpos : Pos} (a e it : Addr) :
    Turn P w K (.Tuple elts kk tpos) (IteT K a) [e, it] e (fun i h => (∃ old, IsEnum h e it ((i : Nat) : Int) old) ∧ h.IsTupleIter it a i ∧ e ≠ it ∧ a ≠ it ∧ e ≠ a) where
  mem := List.mem_cons_self
  obj := fun i h st b hb => by
    obtain ⟨⟨old, he⟩, ⟨o, ho, _, hd⟩, _⟩ := st
    rcases List.mem_cons.mp hb with z | z
    · rw [z]
      exact ⟨_, he, fun v q => nomatch q⟩
    · rw [List.mem_singleton.mp z]
      exact ⟨o, ho, fun v q => by rw [hd] at q; cases q⟩
  keep := fun i h h' st k => by
    obtain ⟨⟨old, he⟩, hi, r⟩ := st
    exact ⟨⟨old, k e List.mem_cons_self _ he⟩, hi.at fun o q => k it (List.mem_cons_of_mem _ List.mem_cons_self) o q, r⟩
  item := by
    rintro X rfl rfl rfl hc i pins s σ H E I hf ⟨⟨old, he⟩, hit, n1, n2, n3⟩ ⟨xs, x, hq, hx⟩
    obtain ⟨its, rv, p, _⟩ := I.tuple hq
    obtain ⟨u, hu, ru⟩ := rv.get hx
    have lt1 := Heap.lt_size he
    have lt2 : it < s.heap.objs.size := let ⟨_, q, _⟩ := hit; Heap.lt_size q
    have hin : i < its.toArray.size := by
      rw [List.size_toArray]
      exact (List.getElem?_eq_some_iff.mp hu).1
    refine wpAny_pyNext_enum_itemD (Draws.tuple (A := X.A.in1) (show X.A.in1.handled = none from I.ok.hd hc) it a n2 its.toArray) he ⟨hit, p⟩ hin n1 (by simp [n1, n3]) fun y h' tk hP ho hst hT hsz hk => ?_
    have ey : y = u := by
      have : its.toArray[i]? = some y := hP
      rw [List.getElem?_toArray, hu] at this
      exact (Option.some.inj this).symm
    subst ey
    refine ⟨_, rfl, wpAny_letOwnedTupleGo_enum (s := { s with heap := h', toks := tk + 1 }) ho fun h2 he2 sb => ?_⟩
    have hT2 : h2.get? s.heap.objs.size = some { cls := .type "tuple", data := .seq #[.int i tk, y] } := (sb.2 _ (Nat.ne_of_gt lt1)).trans hT
    have new : ObjOk X.prog X.w (upd H s.heap.objs.size (.tup [.int (i : Nat), x])) h2 s.heap.objs.size (.tup [.int (i : Nat), x]) :=
      ⟨by show 2 ≤ sizeLine; decide, [.int i tk, y], .cons ⟨_, rfl⟩ (.cons ru .nil), ⟨_, hT2, rfl, _, rfl⟩⟩
    have I1 := I.turnedNew (t' := tk + 1) (ch := [e, it]) (fun b ob hb q => (sb.2 b (fun z => hb (by simp [z]))).trans (hk b ob (fun z => hb (by simp [z])) (fun z => hb (by simp [z])) q)) hf (Nat.le_refl _) new
    refine ⟨.ref s.heap.objs.size, _, I1, rfl, ⟨_, x, rfl, I.hok.fresh (Nat.le_refl _), rfl, fun ys hy => by rw [I.tuple_inj hy hq]; exact hx⟩, ⟨⟨y, ?_⟩, hst.1.at fun o q => (sb.2 it (Ne.symm n1)).trans q, n1, n2, n3⟩, fun b hb => ?_⟩
    · rw [show ((i + 1 : Nat) : Int) = (i : Int) + 1 by omega]
      exact he2
    · have lb : b < s.heap.objs.size := by
        rcases List.mem_cons.mp hb with z | z
        · rw [z]; exact lt1
        · rw [List.mem_singleton.mp z]; exact lt2
      rw [upd_ne (Nat.ne_of_lt lb)]
      exact (hf b hb).1
  done := by
    rintro X rfl rfl rfl hc i pins s σ H E I hf ⟨⟨old, he⟩, hit, n1, n2, n3⟩ ⟨xs, hq, hx⟩
    obtain ⟨its, rv, p, _⟩ := I.tuple hq
    have en : its.toArray.size = i := by
      rw [List.size_toArray, ← rv.length]
      exact hx
    obtain ⟨f0, f1, f2, f3, f4, f5⟩ := hf it (List.mem_cons_of_mem _ List.mem_cons_self)
    refine wpAny_pyNext_enum_endD (Draws.tuple (A := X.A.in1) (show X.A.in1.handled = none from I.ok.hd hc) it a n2 its.toArray) he ⟨by rw [en]; exact hit, p⟩ fun h' eb => ⟨rfl, ?_⟩
    exact I.turned (t' := s.toks) (fun b o hb q => eb b o hb q) f0 f1 f3 f4 f5
  self := fun A i s Q E st h => let ⟨⟨_, he⟩, _⟩ := st; wpAny_pyIter_enum he h
def iEnumT (K : PySem.W.Frag) (ta : TA) : TI := fun σ H R => ta σ H fun vs H1 => ∃ a xs, vs = [.ref a] ∧ SqT K H1 a xs ∧ R (IteT K a) H1
theorem pi_enumT {X : Cx} {e : Expr} {ta : TA} {p pos tpos : Pos} {elts : List Expr} {kk : Nat} (hg : Gl X "enumerate") (hm : X.mg "enumerate" = none) (ha : PA X [e] ta) (hs : starEach [e] X.env = [(false, eval e X.env)] := by rfl) :
    PI X (.Tuple elts kk tpos) (.Call (.Name "enumerate" p) [e] [] pos) (iEnumT X.K ta) := by
  refine ⟨fun pins s σ H R I h => Call_ (ld_blt I hg hm boot_enumerate (PyProof.Rows.callWith_type1 (thn (ha.run pos pins s σ H _ I h) fun us s1 q0 => ?_) hs rfl))⟩
  obtain ⟨vs, H1, I1, r1, a, xs, rfl, hq, q⟩ := q0
  obtain ⟨u, rfl, ru⟩ := vals1 r1
  cases ru
  obtain ⟨its, rv, p', _⟩ := I1.tuple hq
  refine call_enum1 (begins_tuple a its.toArray) p' fun h' he hit hk => wpAny_pyIter_enum he ?_
  have la : a < s1.heap.objs.size := p'.lt
  refine ⟨s1.heap.objs.size + 1, [s1.heap.objs.size + 1, s1.heap.objs.size], _, _, H1, rfl, I1.kept (t' := s1.toks) hk, turn_enumT a _ _, ⟨⟨.none, he⟩, ⟨_, hit, rfl, rfl⟩, Nat.succ_ne_self _, Nat.ne_of_lt la, Nat.ne_of_gt (Nat.lt_succ_of_lt la)⟩, fun b hb => ?_, q⟩
  have hle : s1.heap.objs.size ≤ b := by
    rcases List.mem_cons.mp hb with z | z
    · rw [z]; exact Nat.le_succ _
    · rw [List.mem_singleton.mp z]; exact Nat.le_refl _
  exact I1.fpOk hle (I1.hok.fresh hle)
theorem walk_enumT {K : PySem.W.Frag} {a : Addr} {xs : List V} : Walk (IteT K a) xs.length (fun H => SqT K H a xs) (YPair (fun i => some (.int (i : Nat))) (fun i => xs[i]?)) where
  goes := fun i H hi q => ⟨xs, xs[i], q, by simp [hi]⟩
  stops := fun H q => ⟨xs, q, rfl⟩
  yields := fun i H v H' _ q y => by
    obtain ⟨T, x, h1, h2, h3, h4⟩ := y
    exact ⟨T, .int (i : Nat), x, h1, h2, h3, rfl, h4 xs q⟩

/-! ### repr of a list of bools, no guard around -/
def rReprB (K : PySem.W.Frag) : List V → Hp → VK → Prop := fun vs H Q => ∃ (a : Addr) (bs : List Bool), vs = [.ref a] ∧ SqL K H a (bs.map V.bl) ∧ (PyData.list (bs.map .bool)).showable = true ∧ (PyData.list (bs.map .bool)).hasDict = false ∧
  (PyData.list (bs.map .bool)).depth ≤ 10 ∧ (PyData.list (bs.map .bool)).shown.length ≤ sizeLine ∧ Q (.str (PyData.list (bs.map .bool)).shown) H
theorem dp_bools {K : PySem.W.Frag} {H : Hp} : ∀ bs : List Bool, DpAll K H (bs.map V.bl) (bs.map .bool)
  | [] => .nil
  | b :: bs => .cons (.bl b) (dp_bools bs)
theorem call_repr_bools {X : Cx} {k : Nat} (hg : X.A.guards = some []) (hr : Room k X.A) : CallR X (.builtin "repr") (rReprB X.K) := by
  intro pins s σ H vs us Q I r h
  obtain ⟨a, bs, rfl, hs, h1, h2, h3, h4, q⟩ := h
  obtain ⟨u, rfl, ru⟩ := vals1 r
  cases ru
  obtain ⟨as, rd⟩ := Dp.reads I _ _ (.ref a) (Dp.lst hs (dp_bools bs)) rfl
  have hu := hr.units
  exact repr_of_reads' rd h1 (fun z => by rw [h2] at z; cases z) hg (by omega) (fun _ _ e => e) (fun h' u tk hk => ⟨.str _, H, I.kept hk, ⟨_, rfl⟩, q⟩) h4

/-! ### a call by keywords alone, the names in the parameters' order reversed -/
/-- how f(last = .., .., first = ..) binds -/
def KRev (K : PySem.W.Frag) (fd : FuncData) (ps : List Str) : Prop := ∀ (s : Shared) (ws : List Value), K.In s.heap → ws.length = ps.length → BindsTo s fd ⟨[], ps.reverse.zip ws⟩ (ps.zip ws.reverse)
/-- .. of what stands under x -/
def PrK (P : Program) (w : World) (K : PySem.W.Frag) (mg : Str → Option Value) (base : Heap) (k : Nat) (x : Str) (ps : List Str) (sp : Sp) : Prop :=
  ∃ f fd, mg x = some (.ref f) ∧ PySem.W.keepIn K (.ref f) = true ∧ Binds K fd ps [] ∧ KRev K fd ps ∧ FnOk P w K mg base CX0 k f fd ps sp
theorem PrK.pr {P : Program} {w : World} {K : PySem.W.Frag} {mg : Str → Option Value} {base : Heap} {k : Nat} {x : Str} {ps : List Str} {sp : Sp} (h : PrK P w K mg base k x ps sp) : Pr P w K mg base k x ps sp :=
  let ⟨f, fd, a, b, c, _, e⟩ := h
  ⟨f, fd, a, b, c, e⟩
def tCallR (sp : Sp) (tk : TA) : TE := fun σ H Q => tk σ H fun zs H1 => sp zs.reverse H1 Q E0
theorem vals_reverse {xs : List V} {us : List Value} (r : Vals xs us) : Vals xs.reverse us.reverse := by
  induction r with
  | nil => exact .nil
  | cons h _ ih =>
    rw [List.reverse_cons, List.reverse_cons]
    exact ih.append (.cons h .nil)
section
variable {P : Program} {w : World} {K : PySem.W.Frag} {mg : Str → Option Value} {base : Heap}
theorem prk_of {x : Str} {st : Stmt} {N ps : List Str} {k : Nat} {sp : Sp} (D : Df K mg x st) (S : FnScope N ps (defScope st)) (len : ∀ vs H Q E, sp vs H Q E → vs.length = ps.length)
    (hb : ∀ (kV doc pm : Value) (an : Option Addr) (cdv ct : Value) (us : List Value), us.length = ps.length → bindArgs (PySem.W.fnOf x x (defArgs st) (defBody st) (defScope st) .none kV doc pm an cdv ct) ⟨us, []⟩ = pure (ps.zip us))
    (hk : ∀ (kV doc pm : Value) (an : Option Addr) (cdv ct : Value) (ws : List Value), ws.length = ps.length → bindArgs (PySem.W.fnOf x x (defArgs st) (defBody st) (defScope st) .none kV doc pm an cdv ct) ⟨[], ps.reverse.zip ws⟩ = pure (ps.zip ws.reverse))
    (hbody : ∀ (f : Addr) (cdv : Value) (A : Around) (outer : List Env) (s : Shared) (H : Hp) (vs : List V) (Q : VK) (E : XK), Room k (A.deeper (envOfC x (defScope st) s.heap.objs.size f cdv)) → sp vs H Q E →
      ∃ t, PSs (cxOf CX0 P w K mg base N x (defScope st) f cdv A outer s H E).nox (defBody st) t ∧ t { nx := fun _ H' => Q .non H', rt := Q } (start N vs) H) : PrK P w K mg base (k + 1) x ps sp := by
  obtain ⟨f, fd, F, m⟩ := D
  refine ⟨f, fd, m, F.kp, F.binds hb, ?_, F.ok S len fun cdv A outer s H vs Q E => hbody f cdv A outer s H vs Q E⟩
  obtain ⟨_, _, kV, doc, pm, an, cdv, ct, _, rfl, _, _⟩ := F.ex
  exact fun s ws _ hl => .of_eq (hk kV doc pm an cdv ct ws hl)
end
section
variable {X : Cx} {x : Str} {p pos : Pos} {kws : List Keyword} {tk : TA} {k : Nat} {ps : List Str} {sp : Sp}
/-- f(last = .., .., first = ..) -/
theorem pe_ck (G : PrK X.prog X.w X.K X.mg X.base k x ps sp) (hr : Room k X.A) (hg : Gl X x) (hkw : PK X kws tk) (hall : (backToKw pos (keywordEach kws X.env)).all (·.1.isSome) = true := by rfl)
    (hks : (backToKw pos (keywordEach kws X.env)).filterMap (·.1) = ps.reverse := by rfl) (hdb : (x == ("__debug__" : Str)) = false := by decide)
    (hpl : ((backTo pos (starEach [] X.env)).any (·.1) || (backToKw pos (keywordEach kws X.env)).any (·.1.isNone)) = false := by rfl) : PE X (.Call (.Name x p) [] kws pos) (tCallR sp tk) := by
  obtain ⟨f, fd, m, kp, _, bk, F⟩ := G
  refine ⟨fun pins s σ H Q I h => wpAny_Call_Name_kw (ld_glob I hg m ?_ hdb)⟩
  refine PySem.W.callWith_KW0 (h₀ := X.base) I.ok.mod.kin kp hall (thn (hkw.run pos pins s σ H _ I h) fun ws s2 q0 => ?_) hpl
  obtain ⟨zs, H2, I2, rz, q2⟩ := q0
  have r2 := vals_reverse rz
  have hl := F.len _ _ _ _ q2
  have hw : ws.length = ps.length := by rw [← rz.length, ← hl, List.length_reverse]
  rw [hks]
  refine ⟨I2.kIn, wpAny_call (codeAny_mono (F.run X.A X.stack s2 H2 ⟨[], ps.reverse.zip ws⟩ ws.reverse zs.reverse Q E0 hr I2.env0 (bk s2 ws I2.kIn hw) r2 q2) fun r s' hq => ?_)⟩
  rcases r with e | fl
  · exact pass0 pins σ H2 s2 e s' I2 hq
  · cases fl with
    | ret u => exact I2.after hq
    | next => exact hq.elim
    | brk => exact hq.elim
    | cont => exact hq.elim
end

/-! ### promises where the stack holds no guard -/
def PrG (P : Program) (w : World) (K : PySem.W.Frag) (mg : Str → Option Value) (base : Heap) (k : Nat) (x : Str) (ps : List Str) (sp : Sp) : Prop :=
  ∃ f fd, mg x = some (.ref f) ∧ PySem.W.keepIn K (.ref f) = true ∧ Binds K fd ps [] ∧ (∀ vs H Q E, sp vs H Q E → vs.length = ps.length) ∧
    ∀ (A : Around) (outer : List Env) (s : Shared) (H : Hp) (args : Args) (us : List Value) (vs : List V) (Q : VK) (E : XK), A.guards = some [] → Room k A → Env0 P w K mg base A outer s H → BindsTo s fd args (ps.zip us) → Vals vs us → sp vs H Q E →
      codeAny (model P w) A (.call (.ref f) args) (CR CX0 outer P w H s Q E) s
section
variable {P : Program} {w : World} {K : PySem.W.Frag} {mg : Str → Option Value} {base : Heap}
theorem prg_of {x : Str} {st : Stmt} {N ps : List Str} {k : Nat} {sp : Sp} (D : Df K mg x st) (S : FnScope N ps (defScope st)) (len : ∀ vs H Q E, sp vs H Q E → vs.length = ps.length)
    (hb : ∀ (kV doc pm : Value) (an : Option Addr) (cdv ct : Value) (us : List Value), us.length = ps.length → bindArgs (PySem.W.fnOf x x (defArgs st) (defBody st) (defScope st) .none kV doc pm an cdv ct) ⟨us, []⟩ = pure (ps.zip us))
    (hbody : ∀ (f : Addr) (cdv : Value) (A : Around) (outer : List Env) (s : Shared) (H : Hp) (vs : List V) (Q : VK) (E : XK), A.guards = some [] → Room k (A.deeper (envOfC x (defScope st) s.heap.objs.size f cdv)) → sp vs H Q E →
      ∃ t, PSs (cxOf CX0 P w K mg base N x (defScope st) f cdv A outer s H E).nox (defBody st) t ∧ t { nx := fun _ H' => Q .non H', rt := Q } (start N vs) H) : PrG P w K mg base (k + 1) x ps sp := by
  obtain ⟨f, fd, F, m⟩ := D
  refine ⟨f, fd, m, F.kp, F.binds hb, len, ?_⟩
  obtain ⟨_, _, kV, doc, pm, an, cdv, ct, _, rfl, lk, hcd⟩ := F.ex
  intro A outer s H args us vs Q E hgd hr e0 bt r hsp
  have hl := len _ _ _ _ hsp
  have KX : K.In s.heap := e0.mod.kin.keeps fun b o e => (e0.bs b o e).1
  have lim := e0.mod.nolimit.keeps fun b o e => (e0.bs b o e).1
  refine codeAny_call_function hr.depth (KX _ _ lk) rfl S.co S.gen rfl (PySem.W.codeRec_of KX hcd) (bt _ _ _ _ (wpAny_newFunctionEnv_cells S.kind (fun y hy => ?_) fun env he s1 ic => ?_))
  · rcases S.par y.1 (List.of_mem_zip hy).1 with q | q
    · exact .inl q
    · exact .inr ⟨q, PySem.W.cellsFrom_some _ _ _ (.inl q)⟩
  · subst he
    obtain ⟨t, ht, hq⟩ := hbody f cdv A outer s H vs Q E hgd (hr.deeper _) hsp
    have I := inv_start (CX := CX0) (E := E) (w := w) (P := P) (cd := cdv) (f := f) (qual := x) S hr.hd e0 hl r ic
    refine ⟨lim.keeps ic.toInCall.keep, codeAny_func (wpAny_mono (ht.nox.run [] s1 (start N vs) H _ I hq) (fun fl s' hs => ?_) fun e s' hs => hs)⟩
    cases fl with
    | ret u => obtain ⟨v, _, H', J, rv, q⟩ := hs; exact ⟨v, H', J.os, J.bare, J.base, J.hok, rv, q⟩
    | next => obtain ⟨_, H', J, q⟩ := hs; exact ⟨V.non, H', J.os, J.bare, J.base, J.hok, rfl, q⟩
    | brk => obtain ⟨_, _, _, q⟩ := hs; exact q.elim
    | cont => obtain ⟨_, _, _, q⟩ := hs; exact q.elim
end
section
variable {X : Cx} {x : Str} {p pos : Pos} {e : Expr} {es : List Expr} {t : TA} {k : Nat} {ps : List Str} {sp : Sp}
theorem pe_cg (G : PrG X.prog X.w X.K X.mg X.base k x ps sp) (hr : Room k X.A) (hg : Gl X x) (hgd : X.A.guards = some []) (ha : PA X (e :: es) t) (hdb : (x == ("__debug__" : Str)) = false := by decide)
    (he : starEach (e :: es) X.env = (false, eval e X.env) :: starEach es X.env := by rfl) (hpl : (backTo pos (starEach es X.env)).any (·.1) = false := by rfl) : PE X (.Call (.Name x p) (e :: es) [] pos) (tCall sp [] E0 t) := by
  obtain ⟨f, fd, m, kp, b, len, F⟩ := G
  refine ⟨fun pins s σ H Q I h => wpAny_Call_Name_kw (ld_glob I hg m ?_ hdb)⟩
  refine PySem.W.callWith_K (h₀ := X.base) I.ok.mod.kin kp (thn (ha.run pos pins s σ H _ I h) fun us s1 q0 => ?_) he hpl
  obtain ⟨vs, H1, I1, r, q⟩ := q0
  rw [List.append_nil] at q
  have hl := len _ _ _ _ q
  have hu : (us ++ []).length = ps.length := by rw [List.append_nil, ← r.length, hl]
  have bt := b s1 us I1.kIn hu
  rw [List.append_nil] at bt
  refine ⟨I1.kIn, wpAny_call (codeAny_mono (F X.A X.stack s1 H1 ⟨us, []⟩ us vs Q E0 hgd hr I1.env0 bt r q) fun r s' hq => ?_)⟩
  rcases r with e | fl
  · exact pass0 pins σ H1 s1 e s' I1 hq
  · cases fl with
    | ret u => exact I1.after hq
    | next => exact hq.elim
    | brk => exact hq.elim
    | cont => exact hq.elim
end
end K17
/-! Loops and comprehensions, by what holds at each turn. -/
namespace K17
set_option linter.all false
set_option maxRecDepth 100000
set_option maxHeartbeats 4000000
open PySem PySem.Spec PyProof.Rows L2

theorem nx_list {H : Hp} {p : Addr} {xs ys : List V} (h : H p = some (.lst xs)) : Nx H (upd H p (.lst ys)) := fun b o e n => by
  by_cases q : b = p
  · subst q
    rw [h] at e
    exact absurd (Option.some.inj e).symm (n xs)
  · rw [upd_ne q]
    exact e

section
variable {K : PySem.W.Frag} {σ : L2.St} {H : Hp} {v x y : V} {Q : VK} {D : Ends} {te : TE} {tt : TT} {wi : TI} {g : TG} {tb : TS} {xs : List V} {R : It → Hp → Prop} {tl : TE} {ta : TA}
theorem r_for (h : wi σ H fun J H1 => ∃ W : Nat → Nat → L2.St → Hp → Prop, (∃ m, W 0 m σ H1) ∧ ∀ i m σ H, W i m σ H →
      (J.stop i H ∧ D.nx σ H) ∨ (J.go i H ∧ ∃ N : L2.St → Hp → Prop, (∀ σ' H', N σ' H' → ∃ m', m' < m ∧ W (i + 1) m' σ' H') ∧ ∀ x H', J.yld i H x H' → g x σ H' fun σ2 H2 => tb { D with nx := N, ct := N, bk := D.nx } σ2 H2)) : tFor wi g tb D σ H := h
theorem r_iTup (h : tl σ H fun x H1 => ∃ a, x = .ref a ∧ (∃ xs, SqT K H1 a xs) ∧ R (Itt K a) H1) : iTup K tl σ H R := h
theorem r_iList (h : tl σ H fun x H1 => ∃ a, x = .ref a ∧ (∃ xs, SqL K H1 a xs) ∧ R (Itl K a) H1) : iList K tl σ H R := h
theorem r_iEnumT (h : ta σ H fun vs H1 => ∃ a xs, vs = [.ref a] ∧ SqT K H1 a xs ∧ R (IteT K a) H1) : iEnumT K ta σ H R := h
theorem r_iRng1 (h : ta σ H fun vs H1 => ∃ j : Int, vs = [.int j] ∧ -(2 ^ 62) ≤ j ∧ j < 2 ^ 62 ∧ R (Itr 0 j.toNat) H1) : iRng1 ta σ H R := h
/-- for over a tuple -/
theorem r_loopT (h : Tp K H x xs) (Pv : Nat → L2.St → Hp → Prop) (h0 : Pv 0 σ H) (hl : ∀ i σ' H', Pv i σ' H' → Tp K H' x xs)
    (hs : ∀ i y σ' H', xs[i]? = some y → Pv i σ' H' → g y σ' H' fun σ2 H2 => tb { D with nx := Pv (i + 1), ct := Pv (i + 1), bk := D.nx } σ2 H2) (hd : ∀ σ' H', Pv xs.length σ' H' → D.nx σ' H') :
    ∃ a, x = .ref a ∧ (∃ xs, SqT K H a xs) ∧ ∃ W : Nat → Nat → L2.St → Hp → Prop, (∃ m, W 0 m σ H) ∧ ∀ i m σ H, W i m σ H →
      ((Itt K a).stop i H ∧ D.nx σ H) ∨ ((Itt K a).go i H ∧ ∃ N : L2.St → Hp → Prop, (∀ σ' H', N σ' H' → ∃ m', m' < m ∧ W (i + 1) m' σ' H') ∧ ∀ x H', (Itt K a).yld i H x H' → g x σ H' fun σ2 H2 => tb { D with nx := N, ct := N, bk := D.nx } σ2 H2) := by
  obtain ⟨a, rfl, s⟩ := h
  refine ⟨a, rfl, ⟨xs, s⟩, for_tup (K := K) (a := a) (xs := xs) Pv h0 (fun i σ' H' _ p => ?_) hs hd⟩
  obtain ⟨b, e, s'⟩ := hl i σ' H' p
  cases e
  exact s'
/-- for over a list that stays -/
theorem r_loopL {a : Addr} (h : SqL K H a xs) (Pv : Nat → L2.St → Hp → Prop) (h0 : Pv 0 σ H) (hl : ∀ i σ' H', Pv i σ' H' → SqL K H' a xs)
    (hs : ∀ i y σ' H', xs[i]? = some y → Pv i σ' H' → g y σ' H' fun σ2 H2 => tb { D with nx := Pv (i + 1), ct := Pv (i + 1), bk := D.nx } σ2 H2) (hd : ∀ σ' H', Pv xs.length σ' H' → D.nx σ' H') :
    ∃ a', V.ref a = .ref a' ∧ (∃ xs, SqL K H a' xs) ∧ ∃ W : Nat → Nat → L2.St → Hp → Prop, (∃ m, W 0 m σ H) ∧ ∀ i m σ H, W i m σ H →
      ((Itl K a').stop i H ∧ D.nx σ H) ∨ ((Itl K a').go i H ∧ ∃ N : L2.St → Hp → Prop, (∀ σ' H', N σ' H' → ∃ m', m' < m ∧ W (i + 1) m' σ' H') ∧ ∀ x H', (Itl K a').yld i H x H' → g x σ H' fun σ2 H2 => tb { D with nx := N, ct := N, bk := D.nx } σ2 H2) :=
  ⟨a, rfl, ⟨xs, h⟩, for_list (K := K) (a := a) (xs := xs) Pv h0 (fun i σ' H' _ p => hl i σ' H' p) hs hd⟩
/-- for over range(n) -/
theorem r_loopR {n : Int} (h0' : 0 ≤ n) (hn : n ≤ 1000) (Pv : Nat → L2.St → Hp → Prop) (h0 : Pv 0 σ H)
    (hs : ∀ (i : Nat) σ' H', (i : Int) < n → Pv i σ' H' → g (.int (0 + (i : Int))) σ' H' fun σ2 H2 => tb { D with nx := Pv (i + 1), ct := Pv (i + 1), bk := D.nx } σ2 H2) (hd : ∀ σ' H', Pv n.toNat σ' H' → D.nx σ' H') :
    ∃ j : Int, [V.int n] = [.int j] ∧ -(2 ^ 62) ≤ j ∧ j < 2 ^ 62 ∧ ∃ W : Nat → Nat → L2.St → Hp → Prop, (∃ m, W 0 m σ H) ∧ ∀ i m σ H, W i m σ H →
      ((Itr 0 j.toNat).stop i H ∧ D.nx σ H) ∨ ((Itr 0 j.toNat).go i H ∧ ∃ N : L2.St → Hp → Prop, (∀ σ' H', N σ' H' → ∃ m', m' < m ∧ W (i + 1) m' σ' H') ∧ ∀ x H', (Itr 0 j.toNat).yld i H x H' → g x σ H' fun σ2 H2 => tb { D with nx := N, ct := N, bk := D.nx } σ2 H2) :=
  ⟨n, rfl, by omega, by omega, for_range (lo := 0) (n := n.toNat) Pv h0 (fun i σ' H' hi p => hs i σ' H' (by omega) p) hd⟩
/-- for over enumerate(t) -/
theorem r_loopE {a : Addr} (h : SqT K H a xs) (Pv : Nat → L2.St → Hp → Prop) (h0 : Pv 0 σ H) (hl : ∀ i σ' H', Pv i σ' H' → SqT K H' a xs)
    (hs : ∀ i y T σ' H' H2, xs[i]? = some y → Pv i σ' H' → Same H' H2 → Tp K H2 (.ref T) [.int (i : Nat), y] → g (.ref T) σ' H2 fun σ2 H3 => tb { D with nx := Pv (i + 1), ct := Pv (i + 1), bk := D.nx } σ2 H3) (hd : ∀ σ' H', Pv xs.length σ' H' → D.nx σ' H') :
    ∃ a' ys, [V.ref a] = [.ref a'] ∧ SqT K H a' ys ∧ ∃ W : Nat → Nat → L2.St → Hp → Prop, (∃ m, W 0 m σ H) ∧ ∀ i m σ H, W i m σ H →
      ((IteT K a').stop i H ∧ D.nx σ H) ∨ ((IteT K a').go i H ∧ ∃ N : L2.St → Hp → Prop, (∀ σ' H', N σ' H' → ∃ m', m' < m ∧ W (i + 1) m' σ' H') ∧ ∀ x H', (IteT K a').yld i H x H' → g x σ H' fun σ2 H2 => tb { D with nx := N, ct := N, bk := D.nx } σ2 H2) := by
  refine ⟨a, xs, rfl, h, for_it walk_enumT Pv h0 (fun i σ' H' _ p => hl i σ' H' p) (fun i v σ' H' H2 hi p y => ?_) hd⟩
  obtain ⟨T, z, u, rfl, hT, rfl, hz, hu⟩ := y
  cases hz
  exact hs i u T σ' H' _ hu p (same_new hT) (tp_of upd_same)

theorem r_yes {F : Bool → Hp → Prop} (h : F true H) : tYes σ H F := h
/-! ### comprehensions whose elements change nothing that stood -/
/-- what stands behind a turn: the new list at L holds the elements so far, each as R says -/
def Cw (H : Hp) (R : Nat → V → Hp → Prop) (L : Addr) (i : Nat) (H' : Hp) : Prop :=
  ∃ ys : List V, H L = none ∧ Same H H' ∧ H' L = some (.lst ys) ∧ ys.length = i ∧ ∀ j z, ys[j]? = some z → R j z H'
theorem same_at {H H' : Hp} {L : Addr} {o : HO} (n : H L = none) (e : Same H H') : Same H (upd H' L o) := fun b u q => by
  rw [upd_ne (ne_of_none q n)]
  exact e b u q
theorem cw_start {L : Addr} {R : Nat → V → Hp → Prop} (n : H L = none) : Cw H R L 0 (upd H L (.lst [])) :=
  ⟨[], n, same_new n, upd_same, rfl, fun j z e => by simp at e⟩
theorem cw_step {L : Addr} {R : Nat → V → Hp → Prop} {i : Nat} {H1 H2 : Hp} {z : V} (hR : ∀ i y H1 H2, Nx H1 H2 → R i y H1 → R i y H2) (c : Cw H R L i H1) (hi : i ≤ 1000) (e : Same H1 H2) (r : R i z H2) :
    ∃ acc, H2 L = some (.lst acc) ∧ acc.length < sizeLine ∧ Cw H R L (i + 1) (upd H2 L (.lst (acc ++ [z]))) := by
  obtain ⟨ys, n, s, hL, hl, hr⟩ := c
  have hL2 := e _ _ hL
  refine ⟨ys, hL2, Nat.lt_of_le_of_lt (show ys.length ≤ 1000 by omega) (by decide), ys ++ [z], n, same_at n (s.trans e), upd_same, by simp [hl], fun j u q => ?_⟩
  by_cases h : j < ys.length
  · rw [List.getElem?_append_left h] at q
    exact hR _ _ _ _ (nx_list hL2) (hR _ _ _ _ (Nx.of e) (hr j u q))
  · rw [List.getElem?_append_right (by omega)] at q
    have e0 : j - ys.length = 0 := by
      by_cases z0 : j - ys.length = 0
      · exact z0
      · rw [List.getElem?_eq_none (by simp only [List.length_singleton]; omega)] at q
        cases q
    rw [e0] at q
    obtain rfl : z = u := Option.some.inj q
    have : j = i := by omega
    rw [this]
    exact hR _ _ _ _ (nx_list hL2) r
/-- the comprehension behind its iterable: at turn i .. -/
def LcJ (J : It) (j : Nat) (tt : TT) (te : TE) (vs : List Nat) (σ : L2.St) (H : Hp) (Q : VK) : Prop := ∀ D, H D = none → ∃ W : Nat → Nat → Hp → Prop, (∃ m, W 0 m (upd H D (.lst []))) ∧ ∀ i m H, W i m H →
  (J.stop i H ∧ Q (.ref D) H) ∨ (J.go i H ∧ ∃ Nx : Hp → Prop, (∀ H', Nx H' → ∃ m', m' < m ∧ W (i + 1) m' H') ∧ ∀ x H', J.yld i H x H' → gName j x (wipe σ vs) H' fun σ2 H2 => wipe σ2 vs = wipe σ vs ∧ tt σ2 H2 fun b H3 =>
    if b = true then te σ2 H3 fun y H4 => ∃ acc, H4 D = some (.lst acc) ∧ acc.length < sizeLine ∧ Nx (upd H4 D (.lst (acc ++ [y]))) else Nx H3)
def LcT (K : PySem.W.Frag) (j : Nat) (tt : TT) (te : TE) (vs : List Nat) (σ : L2.St) (x : V) (H : Hp) (Q : VK) : Prop := ∃ a, x = .ref a ∧ (∃ xs, SqT K H a xs) ∧ LcJ (Itt K a) j tt te vs σ H Q
def LcL (K : PySem.W.Frag) (j : Nat) (tt : TT) (te : TE) (vs : List Nat) (σ : L2.St) (x : V) (H : Hp) (Q : VK) : Prop := ∃ a, x = .ref a ∧ (∃ xs, SqL K H a xs) ∧ LcJ (Itl K a) j tt te vs σ H Q
def LcR (j : Nat) (tt : TT) (te : TE) (vs : List Nat) (σ : L2.St) (us : List V) (H : Hp) (Q : VK) : Prop := ∃ k : Int, us = [.int k] ∧ -(2 ^ 62) ≤ k ∧ k < 2 ^ 62 ∧ LcJ (Itr 0 k.toNat) j tt te vs σ H Q
variable {R : Nat → V → Hp → Prop} {vs : List Nat} {j : Nat}
theorem r_lcT (h : tl σ H fun x H1 => LcT K j tt te vs σ x H1 Q) : tLc (iTup K tl) (gName j) tt te vs σ H Q := h
theorem r_lcL (h : tl σ H fun x H1 => LcL K j tt te vs σ x H1 Q) : tLc (iList K tl) (gName j) tt te vs σ H Q := h
theorem r_lcR (h : ta σ H fun us H1 => LcR j tt te vs σ us H1 Q) : tLc (iRng1 ta) (gName j) tt te vs σ H Q := h
theorem tp_sq {a : Addr} {H : Hp} (h : Tp K H (.ref a) xs) : SqT K H a xs := by
  obtain ⟨b, e, s⟩ := h
  cases e
  exact s
theorem r_compT (h : Tp K H x xs) (hlen : xs.length ≤ 1000) (R : Nat → V → Hp → Prop) (hR : ∀ i y H1 H2, Nx H1 H2 → R i y H1 → R i y H2) (hw : ∀ y, wipe ((wipe σ vs).set j (some y)) vs = wipe σ vs)
    (he : ∀ i y H1 Q', xs[i]? = some y → Same H H1 → (∀ z H2, Same H1 H2 → R i z H2 → Q' z H2) → te ((wipe σ vs).set j (some y)) H1 Q')
    (hd : ∀ L H' ys, H L = none → Same H H' → H' L = some (.lst ys) → ys.length = xs.length → (∀ i z, ys[i]? = some z → R i z H') → Q (.ref L) H') :
    LcT K j tYes te vs σ x H Q := by
  obtain ⟨a, rfl, s⟩ := h
  refine ⟨a, rfl, ⟨xs, s⟩, fun L hL => lc_tup (K := K) (a := a) (xs := xs) (Cw H R L) (cw_start hL) (fun i H' _ c => ?_) (fun i y H' hy c => ⟨hw y, ?_⟩) fun H' c => ?_⟩
  · obtain ⟨_, _, e, _⟩ := c
    exact tp_sq (Tp.nx ⟨a, rfl, s⟩ (Nx.of e))
  · have hi : i ≤ 1000 := by have := (List.getElem?_eq_some_iff.mp hy).1; omega
    obtain ⟨_, _, e, _⟩ := id c
    refine r_yes ?_
    rw [if_pos rfl]
    exact he i y H' _ hy e fun z H2 e2 r => cw_step hR c hi e2 r
  · obtain ⟨ys, n, e, hL', hl, hr⟩ := c
    exact hd L H' ys n e hL' hl hr
theorem r_compL {a : Addr} (h : H a = some (.lst xs)) (hlen : xs.length ≤ 1000) (R : Nat → V → Hp → Prop) (hR : ∀ i y H1 H2, Nx H1 H2 → R i y H1 → R i y H2) (hw : ∀ y, wipe ((wipe σ vs).set j (some y)) vs = wipe σ vs)
    (he : ∀ i y H1 Q', xs[i]? = some y → Same H H1 → (∀ z H2, Same H1 H2 → R i z H2 → Q' z H2) → te ((wipe σ vs).set j (some y)) H1 Q')
    (hd : ∀ L H' ys, H L = none → Same H H' → H' L = some (.lst ys) → ys.length = xs.length → (∀ i z, ys[i]? = some z → R i z H') → Q (.ref L) H') :
    LcL K j tYes te vs σ (.ref a) H Q := by
  refine ⟨a, rfl, ⟨xs, SqL.of h⟩, fun L hL => lc_list (K := K) (a := a) (xs := xs) (Cw H R L) (cw_start hL) (fun i H' _ c => ?_) (fun i y H' hy c => ⟨hw y, ?_⟩) fun H' c => ?_⟩
  · obtain ⟨_, _, e, _⟩ := c
    exact SqL.of (e _ _ h)
  · have hi : i ≤ 1000 := by have := (List.getElem?_eq_some_iff.mp hy).1; omega
    obtain ⟨_, _, e, _⟩ := id c
    refine r_yes ?_
    rw [if_pos rfl]
    exact he i y H' _ hy e fun z H2 e2 r => cw_step hR c hi e2 r
  · obtain ⟨ys, n, e, hL', hl, hr⟩ := c
    exact hd L H' ys n e hL' hl hr
theorem r_compR {n : Int} (h0' : 0 ≤ n) (hn : n ≤ 1000) (R : Nat → V → Hp → Prop) (hR : ∀ i y H1 H2, Nx H1 H2 → R i y H1 → R i y H2) (hw : ∀ y, wipe ((wipe σ vs).set j (some y)) vs = wipe σ vs)
    (he : ∀ (i : Nat) H1 Q', (i : Int) < n → Same H H1 → (∀ z H2, Same H1 H2 → R i z H2 → Q' z H2) → te ((wipe σ vs).set j (some (.int (0 + (i : Int))))) H1 Q')
    (hd : ∀ L H' ys, H L = none → Same H H' → H' L = some (.lst ys) → ys.length = n.toNat → (∀ i z, ys[i]? = some z → R i z H') → Q (.ref L) H') :
    LcR j tYes te vs σ [.int n] H Q := by
  refine ⟨n, rfl, by omega, by omega, fun L hL => lc_range (lo := 0) (n := n.toNat) (Cw H R L) (cw_start hL) (fun i H' hi c => ⟨hw _, ?_⟩) fun H' c => ?_⟩
  · obtain ⟨_, _, e, _⟩ := id c
    refine r_yes ?_
    rw [if_pos rfl]
    exact he i H' _ (by omega) e fun z H2 e2 r => cw_step hR c (by omega) e2 r
  · obtain ⟨ys, n, e, hL', hl, hr⟩ := c
    exact hd L H' ys n e hL' hl hr
/-- [x for x in t if ..]: the items that are kept -/
theorem r_compF {p : Nat → Bool} (h : Tp K H x xs) (hlen : xs.length ≤ 1000) (hw : ∀ y, wipe ((wipe σ vs).set j (some y)) vs = wipe σ vs)
    (ht : ∀ (i : Nat) y H1 (QT : Bool → Hp → Prop), xs[i]? = some y → Same H H1 → (∀ H2, Same H1 H2 → QT (p i) H2) → tt ((wipe σ vs).set j (some y)) H1 QT)
    (he : ∀ (i : Nat) y H1 Q', xs[i]? = some y → Same H H1 → Q' y H1 → te ((wipe σ vs).set j (some y)) H1 Q')
    (hd : ∀ L H' ys, H L = none → Same H H' → H' L = some (.lst ys) → (∀ z ∈ ys, z ∈ xs) → (ys = [] ↔ ∀ i, i < xs.length → p i = false) → ys.length ≤ xs.length → Q (.ref L) H') :
    LcT K j tt te vs σ x H Q := by
  obtain ⟨a, rfl, s⟩ := h
  refine ⟨a, rfl, ⟨xs, s⟩, fun L hL => lc_tup (K := K) (a := a) (xs := xs) (fun i H' => ∃ ys : List V, Same H H' ∧ H' L = some (.lst ys) ∧ ys.length ≤ i ∧ (∀ z ∈ ys, z ∈ xs) ∧ (ys = [] ↔ ∀ j, j < i → p j = false))
    ⟨[], same_new hL, upd_same, Nat.le_refl _, fun _ z => absurd z List.not_mem_nil, by simp⟩ (fun i H' _ c => ?_) (fun i y H' hy c => ⟨hw y, ?_⟩) fun H' c => ?_⟩
  · obtain ⟨_, e, _⟩ := c
    exact tp_sq (Tp.nx ⟨a, rfl, s⟩ (Nx.of e))
  · obtain ⟨ys, e, hL', hl, hm, hn⟩ := c
    have hi := (List.getElem?_eq_some_iff.mp hy).1
    refine ht i y H' _ hy e fun H2 e2 => ?_
    cases hp : p i with
    | true =>
      rw [if_pos rfl]
      refine he i y H2 _ hy (e.trans e2) ⟨ys, e2 _ _ hL', Nat.lt_of_le_of_lt (show ys.length ≤ 1000 by omega) (by decide), ys ++ [y], same_at hL (e.trans e2), upd_same, by simp; omega, fun z hz => ?_, ?_⟩
      · rcases List.mem_append.mp hz with q | q
        · exact hm z q
        · rw [List.mem_singleton.mp q]
          exact List.mem_of_getElem? hy
      · constructor
        · intro q
          simp at q
        · intro q
          have := q i (Nat.lt_succ_self i)
          rw [hp] at this
          cases this
    | false =>
      rw [if_neg (by decide)]
      refine ⟨ys, e.trans e2, e2 _ _ hL', by omega, hm, hn.trans ⟨fun q j hj => ?_, fun q j hj => q j (by omega)⟩⟩
      by_cases z : j = i
      · rw [z]; exact hp
      · exact q j (by omega)
  · obtain ⟨ys, e, hL', hl, hm, hn⟩ := c
    exact hd L H' ys hL e hL' hm hn hl
end
end K17
/-! The text by places, what the top has written. -/
namespace K17
set_option linter.all false
set_option maxRecDepth 100000
set_option maxHeartbeats 4000000
open PySem PySem.Spec PyProof.Rows L2
def topS (i : Nat) : Stmt := PySem.Challenge.pw_spoutlines_k17_whole_asks_of_one_distanc.main.body.getD i (.Pass ⟨0, 0, 0, 0⟩)
abbrev st_is_whole : Stmt := topS 2
theorem sc_is_whole : FnScope ["value"] ["value"] (defScope st_is_whole) := ⟨rfl, rfl, rfl, by decide +kernel, rfl, by decide +kernel, by decide +kernel⟩
abbrev st_are_wholes : Stmt := topS 3
theorem sc_are_wholes : FnScope ["value", "many", "number"] ["value", "many"] (defScope st_are_wholes) := ⟨rfl, rfl, rfl, by decide +kernel, rfl, by decide +kernel, by decide +kernel⟩
abbrev st_divisor_of : Stmt := topS 4
theorem sc_divisor_of : FnScope ["numbers", "found", "number"] ["numbers"] (defScope st_divisor_of) := ⟨rfl, rfl, rfl, by decide +kernel, rfl, by decide +kernel, by decide +kernel⟩
abbrev st_is_reduced : Stmt := topS 5
theorem sc_is_reduced : FnScope ["numbers"] ["numbers"] (defScope st_is_reduced) := ⟨rfl, rfl, rfl, by decide +kernel, rfl, by decide +kernel, by decide +kernel⟩
abbrev st_is_ratio : Stmt := topS 9
theorem sc_is_ratio : FnScope ["value"] ["value"] (defScope st_is_ratio) := ⟨rfl, rfl, rfl, by decide +kernel, rfl, by decide +kernel, by decide +kernel⟩
abbrev st_ratio : Stmt := topS 10
theorem sc_ratio : FnScope ["number", "under", "part"] ["number", "under"] (defScope st_ratio) := ⟨rfl, rfl, rfl, by decide +kernel, rfl, by decide +kernel, by decide +kernel⟩
abbrev st_ratio_sum : Stmt := topS 11
theorem sc_ratio_sum : FnScope ["one", "two"] ["one", "two"] (defScope st_ratio_sum) := ⟨rfl, rfl, rfl, by decide +kernel, rfl, by decide +kernel, by decide +kernel⟩
abbrev st_ratio_product : Stmt := topS 13
theorem sc_ratio_product : FnScope ["one", "two"] ["one", "two"] (defScope st_ratio_product) := ⟨rfl, rfl, rfl, by decide +kernel, rfl, by decide +kernel, by decide +kernel⟩
abbrev st_ratio_over : Stmt := topS 14
theorem sc_ratio_over : FnScope ["one", "two"] ["one", "two"] (defScope st_ratio_over) := ⟨rfl, rfl, rfl, by decide +kernel, rfl, by decide +kernel, by decide +kernel⟩
abbrev st_ratio_back : Stmt := topS 15
theorem sc_ratio_back : FnScope ["one"] ["one"] (defScope st_ratio_back) := ⟨rfl, rfl, rfl, by decide +kernel, rfl, by decide +kernel, by decide +kernel⟩
abbrev st_is_lower : Stmt := topS 16
theorem sc_is_lower : FnScope ["one", "two"] ["one", "two"] (defScope st_is_lower) := ⟨rfl, rfl, rfl, by decide +kernel, rfl, by decide +kernel, by decide +kernel⟩
abbrev st_is_spot : Stmt := topS 18
theorem sc_is_spot : FnScope ["value"] ["value"] (defScope st_is_spot) := ⟨rfl, rfl, rfl, by decide +kernel, rfl, by decide +kernel, by decide +kernel⟩
abbrev st_is_ahead : Stmt := topS 19
theorem sc_is_ahead : FnScope ["value"] ["value"] (defScope st_is_ahead) := ⟨rfl, rfl, rfl, by decide +kernel, rfl, by decide +kernel, by decide +kernel⟩
abbrev st_far_of : Stmt := topS 20
theorem sc_far_of : FnScope ["place"] ["place"] (defScope st_far_of) := ⟨rfl, rfl, rfl, by decide +kernel, rfl, by decide +kernel, by decide +kernel⟩
abbrev st_tall_of : Stmt := topS 21
theorem sc_tall_of : FnScope ["place"] ["place"] (defScope st_tall_of) := ⟨rfl, rfl, rfl, by decide +kernel, rfl, by decide +kernel, by decide +kernel⟩
abbrev st_bent_ratio : Stmt := topS 25
theorem sc_bent_ratio : FnScope ["bent", "number"] ["bent", "number"] (defScope st_bent_ratio) := ⟨rfl, rfl, rfl, by decide +kernel, rfl, by decide +kernel, by decide +kernel⟩
abbrev st_is_stream_pair : Stmt := topS 30
theorem sc_is_stream_pair : FnScope ["value"] ["value"] (defScope st_is_stream_pair) := ⟨rfl, rfl, rfl, by decide +kernel, rfl, by decide +kernel, by decide +kernel⟩
abbrev st_head_for : Stmt := topS 31
theorem sc_head_for : FnScope ["slope", "bend"] ["slope", "bend"] (defScope st_head_for) := ⟨rfl, rfl, rfl, by decide +kernel, rfl, by decide +kernel, by decide +kernel⟩
abbrev st_is_of_head : Stmt := topS 32
theorem sc_is_of_head : FnScope ["jet", "head"] ["jet", "head"] (defScope st_is_of_head) := ⟨rfl, rfl, rfl, by decide +kernel, rfl, by decide +kernel, by decide +kernel⟩
abbrev st_is_asking : Stmt := topS 39
theorem sc_is_asking : FnScope ["value"] ["value"] (defScope st_is_asking) := ⟨rfl, rfl, rfl, by decide +kernel, rfl, by decide +kernel, by decide +kernel⟩
abbrev st_is_steep : Stmt := topS 40
theorem sc_is_steep : FnScope ["ask"] ["ask"] (defScope st_is_steep) := ⟨rfl, rfl, rfl, by decide +kernel, rfl, by decide +kernel, by decide +kernel⟩
abbrev st_is_least : Stmt := topS 41
theorem sc_is_least : FnScope ["ask"] ["ask"] (defScope st_is_least) := ⟨rfl, rfl, rfl, by decide +kernel, rfl, by decide +kernel, by decide +kernel⟩
abbrev st_line_under : Stmt := topS 42
theorem sc_line_under : FnScope ["distance", "height", "square"] ["distance", "height"] (defScope st_line_under) := ⟨rfl, rfl, rfl, by decide +kernel, rfl, by decide +kernel, by decide +kernel⟩
abbrev st_parts_of : Stmt := topS 45
theorem sc_parts_of : FnScope ["ask", "word", "bent", "half"] ["ask"] (defScope st_parts_of) := ⟨rfl, rfl, rfl, by decide +kernel, rfl, by decide +kernel, by decide +kernel⟩
abbrev st_bent_at : Stmt := topS 46
theorem sc_bent_at : FnScope ["parts", "slope", "low", "high", "bent"] ["parts", "slope"] (defScope st_bent_at) := ⟨rfl, rfl, rfl, by decide +kernel, rfl, by decide +kernel, by decide +kernel⟩
abbrev st_bound_for : Stmt := topS 47
theorem sc_bound_for : FnScope ["parts", "slope"] ["parts", "slope"] (defScope st_bound_for) := ⟨rfl, rfl, rfl, by decide +kernel, rfl, by decide +kernel, by decide +kernel⟩
abbrev st_is_done : Stmt := topS 48
theorem sc_is_done : FnScope ["jet", "ask", "bound", "slope", "bend"] ["jet", "ask"] (defScope st_is_done) := ⟨rfl, rfl, rfl, by decide +kernel, rfl, by decide +kernel, by decide +kernel⟩
abbrev st_are_done : Stmt := topS 49
theorem sc_are_done : FnScope ["jet", "asks", "ask"] ["jet", "asks"] (defScope st_are_done) := ⟨rfl, rfl, rfl, by decide +kernel, rfl, by decide +kernel, by decide +kernel⟩
abbrev st_check_head : Stmt := topS 57
theorem sc_check_head : FnScope ["value"] ["value"] (defScope st_check_head) := ⟨rfl, rfl, rfl, by decide +kernel, rfl, by decide +kernel, by decide +kernel⟩
abbrev st_check_jet : Stmt := topS 58
theorem sc_check_jet : FnScope ["value"] ["value"] (defScope st_check_jet) := ⟨rfl, rfl, rfl, by decide +kernel, rfl, by decide +kernel, by decide +kernel⟩
abbrev st_check_ask : Stmt := topS 59
theorem sc_check_ask : FnScope ["value"] ["value"] (defScope st_check_ask) := ⟨rfl, rfl, rfl, by decide +kernel, rfl, by decide +kernel, by decide +kernel⟩
abbrev st_check_asks : Stmt := topS 60
theorem sc_check_asks : FnScope ["value", "index", "ask"] ["value"] (defScope st_check_asks) := ⟨rfl, rfl, rfl, by decide +kernel, rfl, by decide +kernel, by decide +kernel⟩
abbrev st_does : Stmt := topS 62
theorem sc_does : FnScope ["jet", "ask"] ["jet", "ask"] (defScope st_does) := ⟨rfl, rfl, rfl, by decide +kernel, rfl, by decide +kernel, by decide +kernel⟩
abbrev st_does_all : Stmt := topS 63
theorem sc_does_all : FnScope ["jet", "asks"] ["jet", "asks"] (defScope st_does_all) := ⟨rfl, rfl, rfl, by decide +kernel, rfl, by decide +kernel, by decide +kernel⟩
abbrev st_is_good : Stmt := topS 64
theorem sc_is_good : FnScope ["jet", "head", "asks"] ["jet", "head", "asks"] (defScope st_is_good) := ⟨rfl, rfl, rfl, by decide +kernel, rfl, by decide +kernel, by decide +kernel⟩
abbrev st_l_vat : Stmt := topS 66
theorem sc_l_vat : FnScope ["_law_script", "_law_lap", "_law_cell", "_law_churn", "_law_each"] ["_law_script", "_law_lap"] (defScope st_l_vat) := ⟨rfl, rfl, rfl, by decide +kernel, rfl, by decide +kernel, by decide +kernel⟩
abbrev st_l_draw : Stmt := topS 67
theorem sc_l_draw : FnScope ["_law_vat_here", "_law_many", "_law_factor", "_law_digit"] ["_law_vat_here", "_law_many"] (defScope st_l_draw) := ⟨rfl, rfl, rfl, by decide +kernel, rfl, by decide +kernel, by decide +kernel⟩
abbrev st_l_pick : Stmt := topS 68
theorem sc_l_pick : FnScope ["_law_vat_here", "_law_some"] ["_law_vat_here", "_law_some"] (defScope st_l_pick) := ⟨rfl, rfl, rfl, by decide +kernel, rfl, by decide +kernel, by decide +kernel⟩
abbrev st_l_about : Stmt := topS 69
theorem sc_l_about : FnScope ["_law_vat_here", "_law_wide", "_law_high_here"] ["_law_vat_here", "_law_wide"] (defScope st_l_about) := ⟨rfl, rfl, rfl, by decide +kernel, rfl, by decide +kernel, by decide +kernel⟩
abbrev st_l_gcd : Stmt := topS 70
theorem sc_l_gcd : FnScope ["_law_one", "_law_two"] ["_law_one", "_law_two"] (defScope st_l_gcd) := ⟨rfl, rfl, rfl, by decide +kernel, rfl, by decide +kernel, by decide +kernel⟩
abbrev st_l_low : Stmt := topS 71
theorem sc_l_low : FnScope ["_law_numbers", "_law_common", "_law_each"] ["_law_numbers"] (defScope st_l_low) := ⟨rfl, rfl, rfl, by decide +kernel, rfl, by decide +kernel, by decide +kernel⟩
abbrev st_l_frac : Stmt := topS 72
theorem sc_l_frac : FnScope ["_law_top", "_law_deep"] ["_law_top", "_law_deep"] (defScope st_l_frac) := ⟨rfl, rfl, rfl, by decide +kernel, rfl, by decide +kernel, by decide +kernel⟩
abbrev st_l_add : Stmt := topS 73
theorem sc_l_add : FnScope ["_law_one", "_law_two"] ["_law_one", "_law_two"] (defScope st_l_add) := ⟨rfl, rfl, rfl, by decide +kernel, rfl, by decide +kernel, by decide +kernel⟩
abbrev st_l_sub : Stmt := topS 74
theorem sc_l_sub : FnScope ["_law_one", "_law_two"] ["_law_one", "_law_two"] (defScope st_l_sub) := ⟨rfl, rfl, rfl, by decide +kernel, rfl, by decide +kernel, by decide +kernel⟩
abbrev st_l_mul : Stmt := topS 75
theorem sc_l_mul : FnScope ["_law_one", "_law_two"] ["_law_one", "_law_two"] (defScope st_l_mul) := ⟨rfl, rfl, rfl, by decide +kernel, rfl, by decide +kernel, by decide +kernel⟩
abbrev st_l_div : Stmt := topS 76
theorem sc_l_div : FnScope ["_law_one", "_law_two"] ["_law_one", "_law_two"] (defScope st_l_div) := ⟨rfl, rfl, rfl, by decide +kernel, rfl, by decide +kernel, by decide +kernel⟩
abbrev st_l_minus : Stmt := topS 77
theorem sc_l_minus : FnScope ["_law_one"] ["_law_one"] (defScope st_l_minus) := ⟨rfl, rfl, rfl, by decide +kernel, rfl, by decide +kernel, by decide +kernel⟩
abbrev st_l_less : Stmt := topS 78
theorem sc_l_less : FnScope ["_law_one", "_law_two"] ["_law_one", "_law_two"] (defScope st_l_less) := ⟨rfl, rfl, rfl, by decide +kernel, rfl, by decide +kernel, by decide +kernel⟩
abbrev st_l_size : Stmt := topS 79
theorem sc_l_size : FnScope ["_law_vat_here"] ["_law_vat_here"] (defScope st_l_size) := ⟨rfl, rfl, rfl, by decide +kernel, rfl, by decide +kernel, by decide +kernel⟩
abbrev st_l_some_frac : Stmt := topS 80
theorem sc_l_some_frac : FnScope ["_law_vat_here", "_law_wide"] ["_law_vat_here", "_law_wide"] (defScope st_l_some_frac) := ⟨rfl, rfl, rfl, by decide +kernel, rfl, by decide +kernel, by decide +kernel⟩
abbrev st_l_above : Stmt := topS 81
theorem sc_l_above : FnScope ["_law_vat_here", "_law_wide"] ["_law_vat_here", "_law_wide"] (defScope st_l_above) := ⟨rfl, rfl, rfl, by decide +kernel, rfl, by decide +kernel, by decide +kernel⟩
abbrev st_l_spot : Stmt := topS 82
theorem sc_l_spot : FnScope ["_law_x", "_law_y"] ["_law_x", "_law_y"] (defScope st_l_spot) := ⟨rfl, rfl, rfl, by decide +kernel, rfl, by decide +kernel, by decide +kernel⟩
abbrev st_l_far : Stmt := topS 83
theorem sc_l_far : FnScope ["_law_place_here"] ["_law_place_here"] (defScope st_l_far) := ⟨rfl, rfl, rfl, by decide +kernel, rfl, by decide +kernel, by decide +kernel⟩
abbrev st_l_high : Stmt := topS 84
theorem sc_l_high : FnScope ["_law_place_here"] ["_law_place_here"] (defScope st_l_high) := ⟨rfl, rfl, rfl, by decide +kernel, rfl, by decide +kernel, by decide +kernel⟩
abbrev st_l_place : Stmt := topS 85
theorem sc_l_place : FnScope ["_law_vat_here", "_law_wide"] ["_law_vat_here", "_law_wide"] (defScope st_l_place) := ⟨rfl, rfl, rfl, by decide +kernel, rfl, by decide +kernel, by decide +kernel⟩
abbrev st_l_jet : Stmt := topS 86
theorem sc_l_jet : FnScope ["_law_vat_here", "_law_wide"] ["_law_vat_here"] (defScope st_l_jet) := ⟨rfl, rfl, rfl, by decide +kernel, rfl, by decide +kernel, by decide +kernel⟩
abbrev st_l_at : Stmt := topS 87
theorem sc_l_at : FnScope ["_law_jet_here", "_law_distance", "_law_slope", "_law_bend"] ["_law_jet_here", "_law_distance"] (defScope st_l_at) := ⟨rfl, rfl, rfl, by decide +kernel, rfl, by decide +kernel, by decide +kernel⟩
abbrev st_l_rise : Stmt := topS 88
theorem sc_l_rise : FnScope ["_law_jet_here", "_law_distance"] ["_law_jet_here", "_law_distance"] (defScope st_l_rise) := ⟨rfl, rfl, rfl, by decide +kernel, rfl, by decide +kernel, by decide +kernel⟩
abbrev st_l_head : Stmt := topS 89
theorem sc_l_head : FnScope ["_law_jet_here", "_law_slope", "_law_bend"] ["_law_jet_here"] (defScope st_l_head) := ⟨rfl, rfl, rfl, by decide +kernel, rfl, by decide +kernel, by decide +kernel⟩
abbrev st_l_ask : Stmt := topS 90
theorem sc_l_ask : FnScope ["_law_vat_here", "_law_words", "_law_wide", "_law_word", "_law_near", "_law_far_here"] ["_law_vat_here", "_law_words", "_law_wide"] (defScope st_l_ask) := ⟨rfl, rfl, rfl, by decide +kernel, rfl, by decide +kernel, by decide +kernel⟩
abbrev st_l_row : Stmt := topS 91
theorem sc_l_row : FnScope ["_law_ask_here", "_law_distance", "_law_word", "_law_row_here", "_law_x", "_law_y", "_law_each"] ["_law_ask_here", "_law_distance"] (defScope st_l_row) := ⟨rfl, rfl, rfl, by decide +kernel, rfl, by decide +kernel, by decide +kernel⟩
abbrev st_l_worth : Stmt := topS 93
theorem sc_l_worth : FnScope ["_law_row_here", "_law_jet_here"] ["_law_row_here", "_law_jet_here"] (defScope st_l_worth) := ⟨rfl, rfl, rfl, by decide +kernel, rfl, by decide +kernel, by decide +kernel⟩
abbrev st_l_does : Stmt := topS 94
theorem sc_l_does : FnScope ["_law_jet_here", "_law_ask_here", "_law_rise_here", "_law_steep", "_law_some", "_law_slope", "_law_bend", "_law_near", "_law_far_here", "_law_each"] ["_law_jet_here", "_law_ask_here"] (defScope st_l_does) := ⟨rfl, rfl, rfl, by decide +kernel, rfl, by decide +kernel, by decide +kernel⟩
abbrev st_l_near_ask : Stmt := topS 95
theorem sc_l_near_ask : FnScope ["_law_vat_here", "_law_jet_here", "_law_words", "_law_two", "_law_touch", "_law_heights", "_law_word", "_law_wide", "_law_one", "_law_gap", "_law_far_here", "_law_bend", "_law_top", "_law_rise_here", "_law_high_here", "_law_each"] ["_law_vat_here", "_law_jet_here", "_law_words"] (defScope st_l_near_ask) := ⟨rfl, rfl, rfl, by decide +kernel, rfl, by decide +kernel, by decide +kernel⟩
abbrev st_l_asks : Stmt := topS 96
theorem sc_l_asks : FnScope ["_law_vat_here", "_law_jet_here", "_law_words", "_law_most", "_law_found", "_law_lap", "_law_one", "_law_two"] ["_law_vat_here", "_law_jet_here", "_law_words", "_law_most"] (defScope st_l_asks) := ⟨rfl, rfl, rfl, by decide +kernel, rfl, by decide +kernel, by decide +kernel⟩
abbrev st_l_right : Stmt := topS 97
theorem sc_l_right : FnScope ["_law_vat_here", "_law_opposite", "_law_word", "_law_asks_here", "_law_due", "_law_own", "_law_head_here", "_law_jet_here", "_law_words", "_law_ask_here", "_law_worth_here", "_law_back", "_law_told", "_law_good"] ["_law_vat_here"] (defScope st_l_right) := ⟨rfl, rfl, rfl, by decide +kernel, rfl, by decide +kernel, by decide +kernel⟩
abbrev st_law : Stmt := topS 98
theorem sc_law : FnScope ["_law_script", "_law_lap"] ["_law_script"] (defScope st_law) := ⟨rfl, rfl, rfl, by decide +kernel, rfl, by decide +kernel, by decide +kernel⟩
theorem b_int : bootBuiltins "int" = some (.type "int") := by decide +kernel
theorem b_bool : bootBuiltins "bool" = some (.type "bool") := by decide +kernel
theorem b_str : bootBuiltins "str" = some (.type "str") := by decide +kernel
theorem b_tuple : bootBuiltins "tuple" = some (.type "tuple") := by decide +kernel
theorem b_len : bootBuiltins "len" = some (.builtin "len") := by decide +kernel
theorem b_isinstance : bootBuiltins "isinstance" = some (.builtin "isinstance") := by decide +kernel
theorem b_all : bootBuiltins "all" = some (.builtin "all") := by decide +kernel
theorem b_abs : bootBuiltins "abs" = some (.builtin "abs") := by decide +kernel
theorem b_sum : bootBuiltins "sum" = some (.builtin "sum") := by decide +kernel
theorem b_min : bootBuiltins "min" = some (.builtin "min") := by decide +kernel
theorem b_max : bootBuiltins "max" = some (.builtin "max") := by decide +kernel
theorem b_divmod : bootBuiltins "divmod" = some (.builtin "divmod") := by decide +kernel
theorem b_repr : bootBuiltins "repr" = some (.builtin "repr") := by decide +kernel
/-- what the walk asks of the top's names -/
structure Txt (K : PySem.W.Frag) (mg : Str → Option Value) (z0 z1 z2 z4 zu zp zs zb zl : Addr) : Prop where
  n_int : mg "int" = none
  n_bool : mg "bool" = none
  n_str : mg "str" = none
  n_tuple : mg "tuple" = none
  n_len : mg "len" = none
  n_isinstance : mg "isinstance" = none
  n_all : mg "all" = none
  n_abs : mg "abs" = none
  n_sum : mg "sum" = none
  n_min : mg "min" = none
  n_max : mg "max" = none
  n_divmod : mg "divmod" = none
  n_repr : mg "repr" = none
  n_range : mg "range" = none
  n_enumerate : mg "enumerate" = none
  g_gcd : mg "gcd" = some (.builtin "math.gcd")
  g_MOST : ∃ t, mg "MOST_ASKS" = some (.int 8 t)
  g_ZERO : mg "ZERO" = some (.ref z0)
  g_ONE : mg "ONE" = some (.ref z1)
  g_TWO : mg "TWO" = some (.ref z2)
  g_FOUR : mg "FOUR" = some (.ref z4)
  g_UNIT : mg "UNIT" = some (.ref zu)
  g_PLACED : mg "PLACED" = some (.ref zp)
  g_STEEP : mg "STEEP" = some (.ref zs)
  g_BENT : mg "BENT" = some (.ref zb)
  g_LEAST : mg "LEAST" = some (.ref zl)
  t_ZERO : ∀ H, Fr K H (.ref z0) 0
  t_ONE : ∀ H, Fr K H (.ref z1) 1
  t_TWO : ∀ H, Fr K H (.ref z2) 2
  t_FOUR : ∀ H, Fr K H (.ref z4) 4
  t_UNIT : ∀ H, Fr K H (.ref zu) 1
  t_PLACED : ∀ H, Tp K H (.ref zp) [.str "over", .str "under"]
  t_STEEP : ∀ H, Tp K H (.ref zs) [.str "dives", .str "climbs"]
  t_BENT : ∀ H, Tp K H (.ref zb) [.str "quick", .str "slow", .str "low"]
  t_LEAST : ∀ H, Tp K H (.ref zl) [.str "under", .str "roof", .str "low", .str "dives", .str "slow"]
end K17
/-! Fractions: the package's functions. -/
namespace K17
set_option linter.all false
set_option maxRecDepth 100000
set_option maxHeartbeats 4000000
open PySem PySem.Spec PyProof.Rows L2
local macro_rules | `(tactic| walk_at "bd") => `(tactic| first
  | with_reducible assumption
  | exact Bd.zero | exact Bd.one | exact Bd.two | exact Bd.four
  | ((with_reducible apply Bd.add) <;> walk_at "bd")
  | ((with_reducible apply Bd.sub) <;> walk_at "bd")
  | ((with_reducible apply Bd.mul) <;> walk_at "bd")
  | ((with_reducible apply Bd.div); (· walk_at "bd"); (· walk_at "bd"); (· walk_at "po"))
  | ((with_reducible apply Bd.neg) <;> walk_at "bd"))
local macro_rules | `(tactic| walk_at "bi") => `(tactic| first
  | with_reducible assumption
  | ((with_reducible apply Bd.bn) <;> walk_at "bd")
  | ((with_reducible apply Bd.bd) <;> walk_at "bd")
  | ((with_reducible apply Bi.mul) <;> walk_at "bi")
  | ((with_reducible apply Bi.add) <;> walk_at "bi")
  | ((with_reducible apply Bi.sub) <;> walk_at "bi")
  | ((with_reducible apply Bi.neg) <;> walk_at "bi"))
local macro_rules | `(tactic| walk_at "va") => `(tactic| first
  | with_reducible assumption
  | ((with_reducible apply VatAt.back); (· with_reducible assumption); walk_at "va"))
local macro_rules | `(tactic| walk_at "nx") => `(tactic| first
  | ((with_reducible apply Nx.of); with_reducible assumption)
  | ((with_reducible apply Nx.gov); (· with_reducible assumption); (· walk_at "va")))
local macro_rules | `(tactic| walk_at "fa") => `(tactic| first
  | with_reducible assumption
  | ((with_reducible apply tp_of); with_reducible assumption)
  | ((with_reducible apply Txt.t_ZERO); with_reducible assumption) | ((with_reducible apply Txt.t_ONE); with_reducible assumption) | ((with_reducible apply Txt.t_TWO); with_reducible assumption) | ((with_reducible apply Txt.t_FOUR); with_reducible assumption) | ((with_reducible apply Txt.t_UNIT); with_reducible assumption) | ((with_reducible apply Txt.t_PLACED); with_reducible assumption) | ((with_reducible apply Txt.t_STEEP); with_reducible assumption) | ((with_reducible apply Txt.t_BENT); with_reducible assumption) | ((with_reducible apply Txt.t_LEAST); with_reducible assumption)
  | ((with_reducible apply Fr.back); (· walk_at "nx"); walk_at "fa")
  | ((with_reducible apply Tp.back); (· walk_at "nx"); walk_at "fa")
  | ((with_reducible apply JetAt.back); (· walk_at "nx"); walk_at "fa")
  | ((with_reducible apply AskAt.back); (· walk_at "nx"); walk_at "fa"))
local macro_rules | `(tactic| walk_at "sm") => `(tactic| first
  | with_reducible assumption
  | with_reducible exact Same.refl _
  | (apply Same.back; (· with_reducible assumption); walk_at "sm"))
local macro_rules | `(tactic| walk_at "ls") => `(tactic| first
  | with_reducible assumption
  | ((with_reducible apply ls_back); (· with_reducible assumption); walk_at "ls"))
local macro_rules | `(tactic| walk_at "go") => `(tactic| first
  | with_reducible assumption
  | with_reducible exact Go.refl _
  | ((with_reducible apply Go.of); with_reducible assumption)
  | ((with_reducible apply Go.backS); (· with_reducible assumption); walk_at "go")
  | ((with_reducible apply Go.back); (· with_reducible assumption); walk_at "go"))
local macro_rules | `(tactic| walk_at "lg") => `(tactic| first
  | with_reducible assumption
  | ((with_reducible apply ls_back); (· with_reducible assumption); walk_at "lg")
  | ((with_reducible apply ls_go); (· with_reducible assumption); (· with_reducible assumption); walk_at "lg"))
local macro_rules | `(tactic| walk_at "sq") => `(tactic| first
  | with_reducible assumption
  | ((with_reducible apply SqL.of); walk_at "lg")
  | ((with_reducible apply sq_back); (· with_reducible assumption); walk_at "sq"))
local macro_rules | `(tactic| walk_at "fx") => `(tactic| first
  | walk_at "fa"
  | ((with_reducible apply Fr.tp); walk_at "fa"))
local macro_rules | `(tactic| walk_at "rd1") => `(tactic| first
  | with_reducible refine r_ret ?_ | with_reducible refine r_seq ?_ | with_reducible refine r_asg ?_ | with_reducible refine r_drop ?_ | with_reducible refine r_ifS ?_ | with_reducible refine r_par ?_ | with_reducible refine r_next ?_
  | with_reducible refine r_name ?_ | with_reducible refine r_gcons ?_ | with_reducible refine r_gnil ?_
  | ((with_reducible apply r_var); (· rfl))
  | with_reducible refine r_c ?_ | with_reducible refine r_op ?_ | with_reducible refine r_un ?_ | with_reducible refine r_call ?_ | with_reducible refine r_cb ?_ | with_reducible refine r_cons ?_ | with_reducible refine r_nil ?_
  | with_reducible refine r_tup ?_ | with_reducible refine r_lst ?_ | with_reducible refine r_if ?_ | with_reducible refine r_test ?_ | with_reducible refine r_B ?_ | with_reducible refine r_and ?_ | with_reducible refine r_or ?_ | with_reducible refine r_not ?_
  | with_reducible refine r_for ?_ | with_reducible refine r_iTup ?_ | with_reducible refine r_iList ?_ | with_reducible refine r_iEnumT ?_ | with_reducible refine r_iRng1 ?_ | with_reducible refine r_lcT ?_ | with_reducible refine r_lcL ?_ | with_reducible refine r_lcR ?_
  | with_reducible refine r_andV ?_ | with_reducible refine r_orV ?_ | with_reducible refine r_notV ?_ | with_reducible refine r_bl ?_
  | with_reducible refine r_I0 ?_ | with_reducible refine r_U ?_ | with_reducible refine r_par2 ?_
  | ((with_reducible refine r_eq ?_ ?_); (· rfl)) | ((with_reducible refine r_ne ?_ ?_); (· rfl))
  | ((with_reducible apply r_ixT); (· walk_at "fx"); (· first | rfl | exact atI_zero _ _))
  | ((with_reducible apply r_gtup); (· walk_at "fx"); (· rfl))
  | ((with_reducible apply r_mulW); (· walk_at "bi"); (· walk_at "bi"); (· first | omega | decide))
  | ((with_reducible apply r_isi_tt); (· walk_at "fx")) | with_reducible refine r_isi_ii ?_ | with_reducible refine r_isi_ib ?_ | with_reducible refine r_isi_ss ?_
  | with_reducible refine r_isNon ?_ | with_reducible refine r_isBl ?_
  | ((with_reducible apply r_lenT); (· walk_at "fx")) | with_reducible refine r_abs ?_ | with_reducible refine r_max ?_ | with_reducible refine r_min ?_ | with_reducible refine r_int ?_
  | ((with_reducible apply r_inT); (· walk_at "fx"); (· rfl); (· rfl)) | ((with_reducible apply r_niT); (· walk_at "fx"); (· rfl); (· rfl))
  | ((with_reducible apply r_inL); (· walk_at "ls"); (· rfl); (· rfl))
  | ((with_reducible apply r_tupOfL); (· walk_at "ls"); intro _ _ _ _ _)
  | ((with_reducible refine r_newT ?_ ?_); (· exact Nat.le_of_ble_eq_true rfl); intro _ _ _ _ _)
  | ((with_reducible refine r_newL ?_ ?_); (· exact Nat.le_of_ble_eq_true rfl); intro _ _ _ _ _)
  | ((with_reducible refine r_T ?_ ?_); (· first | rfl | with_reducible assumption))
  | ((with_reducible refine r_F ?_ ?_); (· first | rfl | with_reducible assumption)))
local macro_rules | `(tactic| walk_at "po") => `(tactic| first
  | with_reducible assumption
  | ((with_reducible apply Rat.mul_pos) <;> walk_at "po")
  | exact two_pos | exact four_pos)
local macro_rules | `(tactic| walk_at "sz") => `(tactic| first | omega | decide)
local macro_rules | `(tactic| walk_at "rd1") => `(tactic| first
  | ((with_reducible apply u_ratio_sum); (· walk_at "fa"); (· walk_at "fa"); (· walk_at "bd"); (· walk_at "bd"); (· walk_at "sz"); intro _ _ _ _)
  | ((with_reducible apply u_ratio_product); (· walk_at "fa"); (· walk_at "fa"); (· walk_at "bd"); (· walk_at "bd"); (· walk_at "sz"); intro _ _ _ _)
  | ((with_reducible apply u_ratio_over); (· walk_at "fa"); (· walk_at "fa"); (· walk_at "bd"); (· walk_at "bd"); (· walk_at "sz"); (· walk_at "po"); intro _ _ _ _)
  | ((with_reducible apply u_is_lower); (· walk_at "fa"); (· walk_at "fa"); (· walk_at "bd"); (· walk_at "bd"); (· walk_at "sz"))
  | ((with_reducible apply u_ratio_back); (· walk_at "fa"); intro _ _ _ _)
  | ((with_reducible apply u_is_ratio); (· walk_at "fa"); intro _ _))
local macro_rules | `(tactic| walk_at "rd1") => `(tactic| first
  | ((with_reducible apply u_l_add); (· walk_at "fa"); (· walk_at "fa"); (· walk_at "bd"); (· walk_at "bd"); (· walk_at "sz"); intro _ _ _ _)
  | ((with_reducible apply u_l_sub); (· walk_at "fa"); (· walk_at "fa"); (· walk_at "bd"); (· walk_at "bd"); (· walk_at "sz"); intro _ _ _ _)
  | ((with_reducible apply u_l_mul); (· walk_at "fa"); (· walk_at "fa"); (· walk_at "bd"); (· walk_at "bd"); (· walk_at "sz"); intro _ _ _ _)
  | ((with_reducible apply u_l_div); (· walk_at "fa"); (· walk_at "fa"); (· walk_at "bd"); (· walk_at "bd"); (· walk_at "sz"); (· walk_at "po"); intro _ _ _ _)
  | ((with_reducible apply u_l_less); (· walk_at "fa"); (· walk_at "fa"); (· walk_at "bd"); (· walk_at "bd"); (· walk_at "sz"))
  | ((with_reducible apply u_l_minus); (· walk_at "fa"); intro _ _ _ _))
local macro_rules | `(tactic| walk_at "rd1") => `(tactic| first
  | with_reducible refine r_sl ?_ | with_reducible refine r_part ?_ | with_reducible refine r_nopart ?_ | with_reducible refine r_some ?_ | with_reducible refine r_gsub ?_
  | ((with_reducible apply r_slL); (· walk_at "sq"); intro _ _ _ _ _)
  | ((with_reducible apply r_mulL); (· first | exact Or.inl (by decide) | exact Or.inr (by decide)))
  | ((with_reducible apply r_powL); (· exact ⟨by decide, by decide, by decide⟩))
  | ((with_reducible apply r_lenL); (· walk_at "sq"))
  | ((with_reducible apply r_ixL); (· walk_at "sq"); (· rfl))
  | ((with_reducible apply r_mod); (· first | with_reducible assumption | decide | omega))
  | ((with_reducible apply r_setL); (· walk_at "lg"); (· rfl); intro _ _ _)
  | ((with_reducible apply r_cat); (· walk_at "ls"); (· walk_at "ls"); (· first | omega | exact Nat.le_of_ble_eq_true rfl); intro _ _ _ _ _))
local macro_rules | `(tactic| walk_at "rd") => `(tactic| repeat walk_at "rd1")
local macro_rules | `(tactic| walk_at "st") => `(tactic| ((try simp only [cx_K]); walk_at "rd"))

/-- the greatest common divisor of a list, as a fold from 0 -/
def gl (ns : List Int) : Nat := ns.foldl (fun g n => Nat.gcd g n.natAbs) 0
def sp_divisor_of (K : PySem.W.Frag) : Sp := fun vs H Q _ => ∃ x ns, vs = [x] ∧ Tp K H x (ns.map V.int) ∧ Q (.int (gl ns : Nat)) H
def sp_ratio (K : PySem.W.Frag) : Sp := fun vs H Q _ => ∃ n m : Int, vs = [.int n, .int m] ∧ 0 < m ∧ Bi 8001 n ∧ Bi 8001 m ∧ ∀ v H', Same H H' → Fr K H' v (Rat.divInt n m) → Q v H'
/-- two fractions in, one out -/
def sp_rat2 (f : Rat → Rat → Rat) (C : Rat → Prop) (K : PySem.W.Frag) : Sp := fun vs H Q _ => ∃ x y p q B C', vs = [x, y] ∧ Fr K H x p ∧ Fr K H y q ∧ Bd B p ∧ Bd C' q ∧ B + C' ≤ 8000 ∧ C q ∧ ∀ v H', Same H H' → Fr K H' v (f p q) → Q v H'
def sp_ratio_sum : PySem.W.Frag → Sp := sp_rat2 (fun p q => p + q) fun _ => True
def sp_ratio_product : PySem.W.Frag → Sp := sp_rat2 (fun p q => p * q) fun _ => True
def sp_ratio_over : PySem.W.Frag → Sp := sp_rat2 (fun p q => p / q) fun q => 0 < q
def sp_ratio_back (K : PySem.W.Frag) : Sp := fun vs H Q _ => ∃ x p, vs = [x] ∧ Fr K H x p ∧ ∀ v H', Same H H' → Fr K H' v (-p) → Q v H'
def sp_is_lower (K : PySem.W.Frag) : Sp := fun vs H Q _ => ∃ x y p q B C, vs = [x, y] ∧ Fr K H x p ∧ Fr K H y q ∧ Bd B p ∧ Bd C q ∧ B + C ≤ 8000 ∧ Q (.bl (decide (p < q))) H
section
variable {K : PySem.W.Frag} {H : Hp} {Q : VK} {E : XK} {x y : V} {p q : Rat} {B C : Nat}
theorem u_divisor_of {ns : List Int} (h : Tp K H x (ns.map V.int)) (k : Q (.int (gl ns : Nat)) H) : sp_divisor_of K ([x] ++ []) H Q E := ⟨x, ns, rfl, h, k⟩
theorem u_ratio {n m : Int} (h0 : 0 < m) (hn : Bi B n) (hm : Bi C m) (hb : B ≤ 8001) (hc : C ≤ 8001) (k : ∀ v H', Same H H' → Fr K H' v (Rat.divInt n m) → Q v H') : sp_ratio K ([.int n, .int m] ++ []) H Q E := ⟨n, m, rfl, h0, hn.mono hb, hm.mono hc, k⟩
theorem u_ratio_sum (hx : Fr K H x p) (hy : Fr K H y q) (hp : Bd B p) (hq : Bd C q) (hs : B + C ≤ 8000) (k : ∀ v H', Same H H' → Fr K H' v (p + q) → Q v H') : sp_ratio_sum K ([x, y] ++ []) H Q E := ⟨x, y, p, q, B, C, rfl, hx, hy, hp, hq, hs, trivial, k⟩
theorem u_ratio_product (hx : Fr K H x p) (hy : Fr K H y q) (hp : Bd B p) (hq : Bd C q) (hs : B + C ≤ 8000) (k : ∀ v H', Same H H' → Fr K H' v (p * q) → Q v H') : sp_ratio_product K ([x, y] ++ []) H Q E := ⟨x, y, p, q, B, C, rfl, hx, hy, hp, hq, hs, trivial, k⟩
theorem u_ratio_over (hx : Fr K H x p) (hy : Fr K H y q) (hp : Bd B p) (hq : Bd C q) (hs : B + C ≤ 8000) (h0 : 0 < q) (k : ∀ v H', Same H H' → Fr K H' v (p / q) → Q v H') : sp_ratio_over K ([x, y] ++ []) H Q E := ⟨x, y, p, q, B, C, rfl, hx, hy, hp, hq, hs, h0, k⟩
theorem u_ratio_back (hx : Fr K H x p) (k : ∀ v H', Same H H' → Fr K H' v (-p) → Q v H') : sp_ratio_back K ([x] ++ []) H Q E := ⟨x, p, rfl, hx, k⟩
theorem u_is_lower (hx : Fr K H x p) (hy : Fr K H y q) (hp : Bd B p) (hq : Bd C q) (hs : B + C ≤ 8000) (k : Q (.bl (decide (p < q))) H) : sp_is_lower K ([x, y] ++ []) H Q E := ⟨x, y, p, q, B, C, rfl, hx, hy, hp, hq, hs, k⟩
end
section
variable {P : Program} {w : World} {K : PySem.W.Frag} {mg : Str → Option Value} {base : Heap} {z0 z1 z2 z4 zu zp zs zb zl : Addr}
theorem ok_ratio_sum (D : Df K mg "ratio_sum" st_ratio_sum) (G_ratio : Pr P w K mg base 2 "ratio" ["number", "under"] (sp_ratio K)) : Pr P w K mg base 3 "ratio_sum" ["one", "two"] (sp_ratio_sum K) := by
  refine pr_of D sc_ratio_sum ?_ (fun _ _ _ _ _ _ us hl => match us, hl with | [_, _], _ => rfl) (fun f cdv A outer s H vs Q E hr h => ?_)
  · rintro vs H Q E ⟨x, y, p, q, B, C, rfl, _⟩
    rfl
  · obtain ⟨x, y, p, q, B, C, rfl, hx, hy, hp, hq, hs, -, k⟩ := h
    refine ⟨_, (pss_one (ps_ret (pe_c G_ratio (hr.mono (by decide)) (by rfl) (pa_cons (pe_op op_add (pe_op op_mulW (pe_ix ix_tup (pv 0) pe_int (fun _ _ => rfl)) (pe_ix ix_tup (pv 1) pe_int (fun _ _ => rfl))) (pe_op op_mulW (pe_ix ix_tup (pv 1) pe_int (fun _ _ => rfl)) (pe_ix ix_tup (pv 0) pe_int (fun _ _ => rfl)))) (pa_cons (pe_op op_mulW (pe_ix ix_tup (pv 0) pe_int (fun _ _ => rfl)) (pe_ix ix_tup (pv 1) pe_int (fun _ _ => rfl))) pa_nil))))), ?_⟩
    walk_at "st"
    refine u_ratio (den_mul_pos p q) (by walk_at "bi") (by walk_at "bi") (by omega) (by omega) fun v H' e h => ?_
    rw [add_eq] at h
    exact k v H' e h
theorem ok_ratio_back (D : Df K mg "ratio_back" st_ratio_back) : Pr P w K mg base 1 "ratio_back" ["one"] (sp_ratio_back K) := by
  refine pr_of D sc_ratio_back ?_ (fun _ _ _ _ _ _ us hl => match us, hl with | [_], _ => rfl) (fun f cdv A outer s H vs Q E hr h => ?_)
  · rintro vs H Q E ⟨x, p, rfl, _⟩
    rfl
  · obtain ⟨x, p, rfl, hx, k⟩ := h
    refine ⟨_, (pss_one (ps_ret (pe_tup (pa_cons (pe_un un_neg (pe_ix ix_tup (pv 0) pe_int (fun _ _ => rfl))) (pa_cons (pe_ix ix_tup (pv 0) pe_int (fun _ _ => rfl)) pa_nil))))), ?_⟩
    walk_at "st"
    rename_i a H' n e h
    exact k _ _ e (tp_of h)
theorem ok_is_lower (D : Df K mg "is_lower" st_is_lower) : Pr P w K mg base 1 "is_lower" ["one", "two"] (sp_is_lower K) := by
  refine pr_of D sc_is_lower ?_ (fun _ _ _ _ _ _ us hl => match us, hl with | [_, _], _ => rfl) (fun f cdv A outer s H vs Q E hr h => ?_)
  · rintro vs H Q E ⟨x, y, p, q, B, C, rfl, _⟩
    rfl
  · obtain ⟨x, y, p, q, B, C, rfl, hx, hy, hp, hq, hs, k⟩ := h
    refine ⟨_, (pss_one (ps_ret (pe_cmpR op_lt (pe_op op_mulW (pe_ix ix_tup (pv 0) pe_int (fun _ _ => rfl)) (pe_ix ix_tup (pv 1) pe_int (fun _ _ => rfl))) (pe_op op_mulW (pe_ix ix_tup (pv 1) pe_int (fun _ _ => rfl)) (pe_ix ix_tup (pv 0) pe_int (fun _ _ => rfl))) (nomark _)))), ?_⟩
    walk_at "st"
    rw [show decide (p.num * (q.den : Int) < q.num * (p.den : Int)) = decide (p < q) from decide_eq_decide.mpr (Rat.lt_iff p q).symm]
    exact k
theorem ok_ratio_product (D : Df K mg "ratio_product" st_ratio_product) (G_ratio : Pr P w K mg base 2 "ratio" ["number", "under"] (sp_ratio K)) : Pr P w K mg base 3 "ratio_product" ["one", "two"] (sp_ratio_product K) := by
  refine pr_of D sc_ratio_product ?_ (fun _ _ _ _ _ _ us hl => match us, hl with | [_, _], _ => rfl) (fun f cdv A outer s H vs Q E hr h => ?_)
  · rintro vs H Q E ⟨x, y, p, q, B, C, rfl, _⟩
    rfl
  · obtain ⟨x, y, p, q, B, C, rfl, hx, hy, hp, hq, hs, -, k⟩ := h
    refine ⟨_, (pss_one (ps_ret (pe_c G_ratio (hr.mono (by decide)) (by rfl) (pa_cons (pe_op op_mulW (pe_ix ix_tup (pv 0) pe_int (fun _ _ => rfl)) (pe_ix ix_tup (pv 1) pe_int (fun _ _ => rfl))) (pa_cons (pe_op op_mulW (pe_ix ix_tup (pv 0) pe_int (fun _ _ => rfl)) (pe_ix ix_tup (pv 1) pe_int (fun _ _ => rfl))) pa_nil))))), ?_⟩
    walk_at "st"
    refine u_ratio (den_mul_pos p q) (by walk_at "bi") (by walk_at "bi") (by omega) (by omega) fun v H' e h => ?_
    rw [mul_eq] at h
    exact k v H' e h
theorem ok_ratio_over (D : Df K mg "ratio_over" st_ratio_over) (G_ratio : Pr P w K mg base 2 "ratio" ["number", "under"] (sp_ratio K)) : Pr P w K mg base 3 "ratio_over" ["one", "two"] (sp_ratio_over K) := by
  refine pr_of D sc_ratio_over ?_ (fun _ _ _ _ _ _ us hl => match us, hl with | [_, _], _ => rfl) (fun f cdv A outer s H vs Q E hr h => ?_)
  · rintro vs H Q E ⟨x, y, p, q, B, C, rfl, _⟩
    rfl
  · obtain ⟨x, y, p, q, B, C, rfl, hx, hy, hp, hq, hs, h0, k⟩ := h
    refine ⟨_, (pss_one (ps_ret (pe_c G_ratio (hr.mono (by decide)) (by rfl) (pa_cons (pe_op op_mulW (pe_ix ix_tup (pv 0) pe_int (fun _ _ => rfl)) (pe_ix ix_tup (pv 1) pe_int (fun _ _ => rfl))) (pa_cons (pe_op op_mulW (pe_ix ix_tup (pv 0) pe_int (fun _ _ => rfl)) (pe_ix ix_tup (pv 1) pe_int (fun _ _ => rfl))) pa_nil))))), ?_⟩
    walk_at "st"
    refine u_ratio (div_den_pos h0) (by walk_at "bi") (by walk_at "bi") (by omega) (by omega) fun v H' e h => ?_
    rw [div_eq] at h
    exact k v H' e h
theorem Tp.sq {x : V} {xs : List V} {H : Hp} (h : Tp K H x xs) : ∃ a, x = .ref a ∧ SqT K H a xs := h
theorem gl_snoc (ns : List Int) (n : Int) : gl (ns ++ [n]) = Nat.gcd (gl ns) n.natAbs := by
  unfold gl
  rw [List.foldl_append]
  rfl
theorem gl_two (n m : Int) : gl [n, m] = Nat.gcd n.natAbs m.natAbs := by
  show Nat.gcd (Nat.gcd 0 n.natAbs) m.natAbs = _
  rw [Nat.gcd_zero_left]
theorem gl_three (n m r : Int) : gl [n, m, r] = Nat.gcd (Nat.gcd n.natAbs m.natAbs) r.natAbs := by
  show Nat.gcd (Nat.gcd (Nat.gcd 0 n.natAbs) m.natAbs) r.natAbs = _
  rw [Nat.gcd_zero_left]
theorem take_snoc {α : Type} {xs : List α} {i : Nat} {x : α} (h : xs[i]? = some x) : xs.take (i + 1) = xs.take i ++ [x] := by
  rw [List.take_add_one, h]
  rfl
theorem map_at {ns : List Int} {i : Nat} {y : V} (h : (ns.map V.int)[i]? = some y) : ∃ n, y = .int n ∧ ns[i]? = some n := by
  rw [List.getElem?_map] at h
  cases e : ns[i]? with
  | none => rw [e] at h; cases h
  | some n => rw [e] at h; exact ⟨n, (Option.some.inj h).symm, rfl⟩
theorem r_gcd {H : Hp} {Q : VK} {a b : Int} (h : Q (.int ((Nat.gcd a.natAbs b.natAbs : Nat) : Int)) H) : rGcd [.int a, .int b] H Q := ⟨a, b, rfl, h⟩
theorem ok_divisor_of (D : Df K mg "divisor_of" st_divisor_of) (T : Txt K mg z0 z1 z2 z4 zu zp zs zb zl) : Pr P w K mg base 1 "divisor_of" ["numbers"] (sp_divisor_of K) := by
  refine pr_of D sc_divisor_of ?_ (fun _ _ _ _ _ _ us hl => match us, hl with | [_], _ => rfl) (fun f cdv A outer s H vs Q E hr h => ?_)
  · rintro vs H Q E ⟨x, ns, rfl, _⟩
    rfl
  · obtain ⟨x, ns, rfl, hx, k⟩ := h
    refine ⟨_, (pss_cons (ps_set (i := 1) sc_divisor_of.nd rfl (by first | exact Or.inl rfl | exact Or.inr rfl) pe_int) (pss_cons (ps_for PassesOwn.never rfl (pi_tup (pv 0)) (pg_name (i := 2) sc_divisor_of.nd rfl (by first | exact Or.inl rfl | exact Or.inr rfl)) (pss_one (ps_set (i := 1) sc_divisor_of.nd rfl (by first | exact Or.inl rfl | exact Or.inr rfl) (pe_callBfun cr_gcd (by rfl) T.g_gcd (pa_cons (pv 1) (pa_cons (pv 2) pa_nil)))))) (pss_one (ps_ret (pv 1))))), ?_⟩
    walk_at "st"
    refine r_loopT hx (fun i σ' H' => H' = H ∧ ∃ u, σ' = [some x, some (.int (gl (ns.take i) : Nat)), u]) ⟨rfl, _, rfl⟩ ?_ ?_ ?_
    · rintro i σ' H' ⟨rfl, _⟩
      exact hx
    · rintro i y σ' H' hy ⟨rfl, u, rfl⟩
      obtain ⟨n, rfl, hn⟩ := map_at hy
      walk_at "rd"
      refine r_gcd ?_
      walk_at "rd"
      refine ⟨rfl, some (.int n), ?_⟩
      rw [take_snoc hn, gl_snoc, Int.natAbs_natCast]
      rfl
    · rintro σ' H' ⟨rfl, u, rfl⟩
      walk_at "rd"
      rw [List.length_map, List.take_length]
      exact k
theorem ok_ratio (D : Df K mg "ratio" st_ratio) (G_divisor_of : Pr P w K mg base 1 "divisor_of" ["numbers"] (sp_divisor_of K)) : Pr P w K mg base 2 "ratio" ["number", "under"] (sp_ratio K) := by
  refine pr_of D sc_ratio ?_ (fun _ _ _ _ _ _ us hl => match us, hl with | [_, _], _ => rfl) (fun f cdv A outer s H vs Q E hr h => ?_)
  · rintro vs H Q E ⟨n, m, rfl, _⟩
    rfl
  · obtain ⟨n, m, rfl, hm, hn, hb, k⟩ := h
    refine ⟨_, (pss_cons (ps_set (i := 2) sc_ratio.nd rfl (by first | exact Or.inl rfl | exact Or.inr rfl) (pe_c G_divisor_of (hr.mono (by decide)) (by rfl) (pa_cons (pe_tup (pa_cons (pv 0) (pa_cons (pv 1) pa_nil))) pa_nil))) (pss_cons (ps_set (i := 2) sc_ratio.nd rfl (by first | exact Or.inl rfl | exact Or.inr rfl) (pe_ifExp (pt_cmpR op_gt (pv 1) pe_int (nomark _)) (pv 2) (pe_un un_neg (pv 2)))) (pss_one (ps_ret (pe_tup (pa_cons (pe_op op_fdivW (pv 0) (pv 2)) (pa_cons (pe_op op_fdivW (pv 1) (pv 2)) pa_nil))))))), ?_⟩
    walk_at "st"
    rename_i a H1 n1 e1 h1
    refine u_divisor_of (ns := [n, m]) (tp_of h1) ?_
    rw [gl_two]
    walk_at "rd"
    refine r_T (decide_eq_true hm) ?_
    have g0 := gcd_pos (n := n) hm
    have gb : Bi 8001 ((Nat.gcd n.natAbs m.natAbs : Nat) : Int) := by
      have : Nat.gcd n.natAbs m.natAbs ≤ m.natAbs := Nat.le_of_dvd (by omega) (Nat.gcd_dvd_right _ _)
      unfold Bi at *
      rw [Int.natAbs_natCast]
      omega
    walk_at "rd"
    refine r_divW g0 gb (by decide) ?_
    walk_at "rd"
    refine r_divW g0 gb (by decide) ?_
    walk_at "rd"
    rename_i p H2 n2 e2 h2
    refine k _ _ (e1.trans e2) ?_
    rw [red_num hm, red_den hm] at h2
    exact tp_of h2
end
end K17
/-! What is a number, a fraction, a place, a jet; places; heads. -/
namespace K17
set_option linter.all false
set_option maxRecDepth 100000
set_option maxHeartbeats 4000000
open PySem PySem.Spec PyProof.Rows L2
def sp_is_whole (K : PySem.W.Frag) : Sp := fun vs H Q _ => ∃ i : Int, vs = [.int i] ∧ Q (.bl true) H
/-- a test that is passed -/
def spYes (P : List V → Hp → Prop) : Sp := fun vs H Q _ => P vs H ∧ ∀ H', Same H H' → Q (.bl true) H'
def sp_are_wholes (K : PySem.W.Frag) : Sp := spYes fun vs H => ∃ (x : V) (ns : List Int), vs = [x, .int (ns.length : Nat)] ∧ Tp K H x (ns.map V.int) ∧ ns.length ≤ 10
def sp_is_reduced (K : PySem.W.Frag) : Sp := fun vs H Q _ => ∃ x ns, vs = [x] ∧ Tp K H x (ns.map V.int) ∧ gl ns = 1 ∧ Q (.bl true) H
def sp_is_ratio (K : PySem.W.Frag) : Sp := spYes fun vs H => ∃ x q, vs = [x] ∧ Fr K H x q
def sp_is_spot (K : PySem.W.Frag) : Sp := spYes fun vs H => ∃ v x y w, vs = [v] ∧ Tp K H v [.int x, .int y, .int w] ∧ Pl x y w
def sp_is_ahead : PySem.W.Frag → Sp := sp_is_spot
def sp_far_of (K : PySem.W.Frag) : Sp := fun vs H Q _ => ∃ v x y w, vs = [v] ∧ Tp K H v [.int x, .int y, .int w] ∧ 0 < w ∧ Bi 8000 x ∧ Bi 8000 w ∧ ∀ u H', Same H H' → Fr K H' u (Rat.divInt x w) → Q u H'
def sp_tall_of (K : PySem.W.Frag) : Sp := fun vs H Q _ => ∃ v x y w, vs = [v] ∧ Tp K H v [.int x, .int y, .int w] ∧ 0 < w ∧ Bi 8000 y ∧ Bi 8000 w ∧ ∀ u H', Same H H' → Fr K H' u (Rat.divInt y w) → Q u H'
def sp_bent_ratio (K : PySem.W.Frag) : Sp := fun vs H Q _ => ∃ v x c' d' e' c d e s, vs = [v, x] ∧ Tp K H v [c', d', e'] ∧ Fr K H c' c ∧ Fr K H d' d ∧ Fr K H e' e ∧ Fr K H x s ∧ Bd 1000 c ∧ Bd 1000 d ∧ Bd 1000 e ∧ Bd 1000 s ∧
  ∀ u H', Same H H' → Fr K H' u (bent c d e s) → Q u H'
def sp_is_stream_pair (K : PySem.W.Frag) : Sp := spYes fun vs H => ∃ v s b, vs = [v] ∧ JetAt K H v s b ∧ 0 < b
def headOf (s b : Rat) : Rat := (1 + s * s) / (4 * b)
def sp_head_for (K : PySem.W.Frag) : Sp := fun vs H Q _ => ∃ x y s b, vs = [x, y] ∧ Fr K H x s ∧ Fr K H y b ∧ 0 < b ∧ Bd 1000 s ∧ Bd 1000 b ∧ ∀ u H', Same H H' → Fr K H' u (headOf s b) → Q u H'
def sp_is_of_head (K : PySem.W.Frag) : Sp := fun vs H Q _ => ∃ v x s b h, vs = [v, x] ∧ JetAt K H v s b ∧ Fr K H x h ∧ 0 < b ∧ Bd 1000 s ∧ Bd 1000 b ∧ Bd 1000 h ∧ ∀ H', Same H H' → Q (.bl (!decide (h < headOf s b))) H'
section
variable {K : PySem.W.Frag} {H : Hp} {Q : VK} {E : XK} {x y v : V} {p q s b : Rat} {B C : Nat}
theorem u_is_whole {i : Int} (k : Q (.bl true) H) : sp_is_whole K ([.int i] ++ []) H Q E := ⟨i, rfl, k⟩
theorem u_are_wholes {ns : List Int} (h : Tp K H x (ns.map V.int)) (hl : ns.length ≤ 10) (k : ∀ H', Same H H' → Q (.bl true) H') : sp_are_wholes K ([x, .int (ns.length : Nat)] ++ []) H Q E := ⟨⟨x, ns, rfl, h, hl⟩, k⟩
theorem u_is_reduced {ns : List Int} (h : Tp K H x (ns.map V.int)) (hl : gl ns = 1) (k : Q (.bl true) H) : sp_is_reduced K ([x] ++ []) H Q E := ⟨x, ns, rfl, h, hl, k⟩
theorem u_is_ratio (h : Fr K H x q) (k : ∀ H', Same H H' → Q (.bl true) H') : sp_is_ratio K ([x] ++ []) H Q E := ⟨⟨x, q, rfl, h⟩, k⟩
theorem u_is_spot {a b c : Int} (h : Tp K H x [.int a, .int b, .int c]) (hp : Pl a b c) (k : ∀ H', Same H H' → Q (.bl true) H') : sp_is_spot K ([x] ++ []) H Q E := ⟨⟨x, a, b, c, rfl, h, hp⟩, k⟩
theorem u_is_ahead {a b c : Int} (h : Tp K H x [.int a, .int b, .int c]) (hp : Pl a b c) (k : ∀ H', Same H H' → Q (.bl true) H') : sp_is_ahead K ([x] ++ []) H Q E := ⟨⟨x, a, b, c, rfl, h, hp⟩, k⟩
theorem u_far_of {a b c : Int} (h : Tp K H x [.int a, .int b, .int c]) (h0 : 0 < c) (ha : Bi B a) (hc : Bi B c) (hB : B ≤ 8000) (k : ∀ u H', Same H H' → Fr K H' u (Rat.divInt a c) → Q u H') : sp_far_of K ([x] ++ []) H Q E := ⟨x, a, b, c, rfl, h, h0, ha.mono hB, hc.mono hB, k⟩
theorem u_tall_of {a b c : Int} (h : Tp K H x [.int a, .int b, .int c]) (h0 : 0 < c) (ha : Bi B b) (hc : Bi B c) (hB : B ≤ 8000) (k : ∀ u H', Same H H' → Fr K H' u (Rat.divInt b c) → Q u H') : sp_tall_of K ([x] ++ []) H Q E := ⟨x, a, b, c, rfl, h, h0, ha.mono hB, hc.mono hB, k⟩
theorem u_bent_ratio {c' d' e' : V} {c d e : Rat} (h : Tp K H v [c', d', e']) (hc : Fr K H c' c) (hd : Fr K H d' d) (he : Fr K H e' e) (hx : Fr K H x s) (bc : Bd 1000 c) (b_d : Bd 1000 d) (be : Bd 1000 e) (bs : Bd 1000 s) (k : ∀ u H', Same H H' → Fr K H' u (bent c d e s) → Q u H') :
    sp_bent_ratio K ([v, x] ++ []) H Q E := ⟨v, x, c', d', e', c, d, e, s, rfl, h, hc, hd, he, hx, bc, b_d, be, bs, k⟩
theorem u_is_stream_pair (h : JetAt K H v s b) (h0 : 0 < b) (k : ∀ H', Same H H' → Q (.bl true) H') : sp_is_stream_pair K ([v] ++ []) H Q E := ⟨⟨v, s, b, rfl, h, h0⟩, k⟩
theorem u_head_for (hx : Fr K H x s) (hy : Fr K H y b) (h0 : 0 < b) (bs : Bd 1000 s) (bb : Bd 1000 b) (k : ∀ u H', Same H H' → Fr K H' u (headOf s b) → Q u H') : sp_head_for K ([x, y] ++ []) H Q E := ⟨x, y, s, b, rfl, hx, hy, h0, bs, bb, k⟩
theorem u_is_of_head {h : Rat} (hv : JetAt K H v s b) (hx : Fr K H x h) (h0 : 0 < b) (bs : Bd 1000 s) (bb : Bd 1000 b) (bh : Bd 1000 h) (k : ∀ H', Same H H' → Q (.bl (!decide (h < headOf s b))) H') : sp_is_of_head K ([v, x] ++ []) H Q E := ⟨v, x, s, b, h, rfl, hv, hx, h0, bs, bb, bh, k⟩
end
local macro_rules | `(tactic| walk_at "bd") => `(tactic| first
  | with_reducible assumption
  | exact Bd.zero | exact Bd.one | exact Bd.two | exact Bd.four
  | ((with_reducible apply Bd.add) <;> walk_at "bd")
  | ((with_reducible apply Bd.sub) <;> walk_at "bd")
  | ((with_reducible apply Bd.mul) <;> walk_at "bd")
  | ((with_reducible apply Bd.div); (· walk_at "bd"); (· walk_at "bd"); (· walk_at "po"))
  | ((with_reducible apply Bd.neg) <;> walk_at "bd"))
local macro_rules | `(tactic| walk_at "bi") => `(tactic| first
  | with_reducible assumption
  | ((with_reducible apply Bd.bn) <;> walk_at "bd")
  | ((with_reducible apply Bd.bd) <;> walk_at "bd")
  | ((with_reducible apply Bi.mul) <;> walk_at "bi")
  | ((with_reducible apply Bi.add) <;> walk_at "bi")
  | ((with_reducible apply Bi.sub) <;> walk_at "bi")
  | ((with_reducible apply Bi.neg) <;> walk_at "bi"))
local macro_rules | `(tactic| walk_at "va") => `(tactic| first
  | with_reducible assumption
  | ((with_reducible apply VatAt.back); (· with_reducible assumption); walk_at "va"))
local macro_rules | `(tactic| walk_at "nx") => `(tactic| first
  | ((with_reducible apply Nx.of); with_reducible assumption)
  | ((with_reducible apply Nx.gov); (· with_reducible assumption); (· walk_at "va")))
local macro_rules | `(tactic| walk_at "fa") => `(tactic| first
  | with_reducible assumption
  | ((with_reducible apply tp_of); with_reducible assumption)
  | ((with_reducible apply Txt.t_ZERO); with_reducible assumption) | ((with_reducible apply Txt.t_ONE); with_reducible assumption) | ((with_reducible apply Txt.t_TWO); with_reducible assumption) | ((with_reducible apply Txt.t_FOUR); with_reducible assumption) | ((with_reducible apply Txt.t_UNIT); with_reducible assumption) | ((with_reducible apply Txt.t_PLACED); with_reducible assumption) | ((with_reducible apply Txt.t_STEEP); with_reducible assumption) | ((with_reducible apply Txt.t_BENT); with_reducible assumption) | ((with_reducible apply Txt.t_LEAST); with_reducible assumption)
  | ((with_reducible apply Fr.back); (· walk_at "nx"); walk_at "fa")
  | ((with_reducible apply Tp.back); (· walk_at "nx"); walk_at "fa")
  | ((with_reducible apply JetAt.back); (· walk_at "nx"); walk_at "fa")
  | ((with_reducible apply AskAt.back); (· walk_at "nx"); walk_at "fa"))
local macro_rules | `(tactic| walk_at "sm") => `(tactic| first
  | with_reducible assumption
  | with_reducible exact Same.refl _
  | (apply Same.back; (· with_reducible assumption); walk_at "sm"))
local macro_rules | `(tactic| walk_at "ls") => `(tactic| first
  | with_reducible assumption
  | ((with_reducible apply ls_back); (· with_reducible assumption); walk_at "ls"))
local macro_rules | `(tactic| walk_at "go") => `(tactic| first
  | with_reducible assumption
  | with_reducible exact Go.refl _
  | ((with_reducible apply Go.of); with_reducible assumption)
  | ((with_reducible apply Go.backS); (· with_reducible assumption); walk_at "go")
  | ((with_reducible apply Go.back); (· with_reducible assumption); walk_at "go"))
local macro_rules | `(tactic| walk_at "lg") => `(tactic| first
  | with_reducible assumption
  | ((with_reducible apply ls_back); (· with_reducible assumption); walk_at "lg")
  | ((with_reducible apply ls_go); (· with_reducible assumption); (· with_reducible assumption); walk_at "lg"))
local macro_rules | `(tactic| walk_at "sq") => `(tactic| first
  | with_reducible assumption
  | ((with_reducible apply SqL.of); walk_at "lg")
  | ((with_reducible apply sq_back); (· with_reducible assumption); walk_at "sq"))
local macro_rules | `(tactic| walk_at "fx") => `(tactic| first
  | walk_at "fa"
  | ((with_reducible apply Fr.tp); walk_at "fa"))
local macro_rules | `(tactic| walk_at "rd1") => `(tactic| first
  | with_reducible refine r_ret ?_ | with_reducible refine r_seq ?_ | with_reducible refine r_asg ?_ | with_reducible refine r_drop ?_ | with_reducible refine r_ifS ?_ | with_reducible refine r_par ?_ | with_reducible refine r_next ?_
  | with_reducible refine r_name ?_ | with_reducible refine r_gcons ?_ | with_reducible refine r_gnil ?_
  | ((with_reducible apply r_var); (· rfl))
  | with_reducible refine r_c ?_ | with_reducible refine r_op ?_ | with_reducible refine r_un ?_ | with_reducible refine r_call ?_ | with_reducible refine r_cb ?_ | with_reducible refine r_cons ?_ | with_reducible refine r_nil ?_
  | with_reducible refine r_tup ?_ | with_reducible refine r_lst ?_ | with_reducible refine r_if ?_ | with_reducible refine r_test ?_ | with_reducible refine r_B ?_ | with_reducible refine r_and ?_ | with_reducible refine r_or ?_ | with_reducible refine r_not ?_
  | with_reducible refine r_for ?_ | with_reducible refine r_iTup ?_ | with_reducible refine r_iList ?_ | with_reducible refine r_iEnumT ?_ | with_reducible refine r_iRng1 ?_ | with_reducible refine r_lcT ?_ | with_reducible refine r_lcL ?_ | with_reducible refine r_lcR ?_
  | with_reducible refine r_andV ?_ | with_reducible refine r_orV ?_ | with_reducible refine r_notV ?_ | with_reducible refine r_bl ?_
  | with_reducible refine r_I0 ?_ | with_reducible refine r_U ?_ | with_reducible refine r_par2 ?_
  | ((with_reducible refine r_eq ?_ ?_); (· rfl)) | ((with_reducible refine r_ne ?_ ?_); (· rfl))
  | ((with_reducible apply r_ixT); (· walk_at "fx"); (· first | rfl | exact atI_zero _ _))
  | ((with_reducible apply r_gtup); (· walk_at "fx"); (· rfl))
  | ((with_reducible apply r_mulW); (· walk_at "bi"); (· walk_at "bi"); (· first | omega | decide))
  | ((with_reducible apply r_isi_tt); (· walk_at "fx")) | with_reducible refine r_isi_ii ?_ | with_reducible refine r_isi_ib ?_ | with_reducible refine r_isi_ss ?_
  | with_reducible refine r_isNon ?_ | with_reducible refine r_isBl ?_
  | ((with_reducible apply r_lenT); (· walk_at "fx")) | with_reducible refine r_abs ?_ | with_reducible refine r_max ?_ | with_reducible refine r_min ?_ | with_reducible refine r_int ?_
  | ((with_reducible apply r_inT); (· walk_at "fx"); (· rfl); (· rfl)) | ((with_reducible apply r_niT); (· walk_at "fx"); (· rfl); (· rfl))
  | ((with_reducible apply r_inL); (· walk_at "ls"); (· rfl); (· rfl))
  | ((with_reducible apply r_tupOfL); (· walk_at "ls"); intro _ _ _ _ _)
  | ((with_reducible refine r_newT ?_ ?_); (· exact Nat.le_of_ble_eq_true rfl); intro _ _ _ _ _)
  | ((with_reducible refine r_newL ?_ ?_); (· exact Nat.le_of_ble_eq_true rfl); intro _ _ _ _ _)
  | ((with_reducible refine r_T ?_ ?_); (· first | rfl | with_reducible assumption))
  | ((with_reducible refine r_F ?_ ?_); (· first | rfl | with_reducible assumption)))
local macro_rules | `(tactic| walk_at "po") => `(tactic| first
  | with_reducible assumption
  | ((with_reducible apply Rat.mul_pos) <;> walk_at "po")
  | exact two_pos | exact four_pos)
local macro_rules | `(tactic| walk_at "sz") => `(tactic| first | omega | decide)
local macro_rules | `(tactic| walk_at "rd1") => `(tactic| first
  | ((with_reducible apply u_ratio_sum); (· walk_at "fa"); (· walk_at "fa"); (· walk_at "bd"); (· walk_at "bd"); (· walk_at "sz"); intro _ _ _ _)
  | ((with_reducible apply u_ratio_product); (· walk_at "fa"); (· walk_at "fa"); (· walk_at "bd"); (· walk_at "bd"); (· walk_at "sz"); intro _ _ _ _)
  | ((with_reducible apply u_ratio_over); (· walk_at "fa"); (· walk_at "fa"); (· walk_at "bd"); (· walk_at "bd"); (· walk_at "sz"); (· walk_at "po"); intro _ _ _ _)
  | ((with_reducible apply u_is_lower); (· walk_at "fa"); (· walk_at "fa"); (· walk_at "bd"); (· walk_at "bd"); (· walk_at "sz"))
  | ((with_reducible apply u_ratio_back); (· walk_at "fa"); intro _ _ _ _)
  | ((with_reducible apply u_is_ratio); (· walk_at "fa"); intro _ _))
local macro_rules | `(tactic| walk_at "rd1") => `(tactic| first
  | ((with_reducible apply u_l_add); (· walk_at "fa"); (· walk_at "fa"); (· walk_at "bd"); (· walk_at "bd"); (· walk_at "sz"); intro _ _ _ _)
  | ((with_reducible apply u_l_sub); (· walk_at "fa"); (· walk_at "fa"); (· walk_at "bd"); (· walk_at "bd"); (· walk_at "sz"); intro _ _ _ _)
  | ((with_reducible apply u_l_mul); (· walk_at "fa"); (· walk_at "fa"); (· walk_at "bd"); (· walk_at "bd"); (· walk_at "sz"); intro _ _ _ _)
  | ((with_reducible apply u_l_div); (· walk_at "fa"); (· walk_at "fa"); (· walk_at "bd"); (· walk_at "bd"); (· walk_at "sz"); (· walk_at "po"); intro _ _ _ _)
  | ((with_reducible apply u_l_less); (· walk_at "fa"); (· walk_at "fa"); (· walk_at "bd"); (· walk_at "bd"); (· walk_at "sz"))
  | ((with_reducible apply u_l_minus); (· walk_at "fa"); intro _ _ _ _))
local macro_rules | `(tactic| walk_at "rd1") => `(tactic| first
  | with_reducible refine r_sl ?_ | with_reducible refine r_part ?_ | with_reducible refine r_nopart ?_ | with_reducible refine r_some ?_ | with_reducible refine r_gsub ?_
  | ((with_reducible apply r_slL); (· walk_at "sq"); intro _ _ _ _ _)
  | ((with_reducible apply r_mulL); (· first | exact Or.inl (by decide) | exact Or.inr (by decide)))
  | ((with_reducible apply r_powL); (· exact ⟨by decide, by decide, by decide⟩))
  | ((with_reducible apply r_lenL); (· walk_at "sq"))
  | ((with_reducible apply r_ixL); (· walk_at "sq"); (· rfl))
  | ((with_reducible apply r_mod); (· first | with_reducible assumption | decide | omega))
  | ((with_reducible apply r_setL); (· walk_at "lg"); (· rfl); intro _ _ _)
  | ((with_reducible apply r_cat); (· walk_at "ls"); (· walk_at "ls"); (· first | omega | exact Nat.le_of_ble_eq_true rfl); intro _ _ _ _ _))
local macro_rules | `(tactic| walk_at "rd") => `(tactic| repeat walk_at "rd1")
local macro_rules | `(tactic| walk_at "st") => `(tactic| ((try simp only [cx_K]); walk_at "rd"))

section
variable {P : Program} {w : World} {K : PySem.W.Frag} {mg : Str → Option Value} {base : Heap} {z0 z1 z2 z4 zu zp zs zb zl : Addr}
theorem ok_is_whole (D : Df K mg "is_whole" st_is_whole) (T : Txt K mg z0 z1 z2 z4 zu zp zs zb zl) : Pr P w K mg base 1 "is_whole" ["value"] (sp_is_whole K) := by
  refine pr_of D sc_is_whole ?_ (fun _ _ _ _ _ _ us hl => match us, hl with | [_], _ => rfl) (fun f cdv A outer s H vs Q E hr h => ?_)
  · rintro vs H Q E ⟨i, rfl, _⟩
    rfl
  · obtain ⟨i, rfl, k⟩ := h
    refine ⟨_, (pss_one (ps_ret (pe_and (pe_callB call_isi (by rfl) T.n_isinstance b_isinstance (pa_cons (pv 0) (pa_cons (pe_bltn (by rfl) T.n_int (v := .ty "int") b_int rfl) pa_nil))) (pe_one (pe_not (pe_callB call_isi (by rfl) T.n_isinstance b_isinstance (pa_cons (pv 0) (pa_cons (pe_bltn (by rfl) T.n_bool (v := .ty "bool") b_bool rfl) pa_nil)))))))), ?_⟩
    walk_at "st"
    exact k
theorem ok_are_wholes (D : Df K mg "are_wholes" st_are_wholes) (T : Txt K mg z0 z1 z2 z4 zu zp zs zb zl) (G_is_whole : Pr P w K mg base 1 "is_whole" ["value"] (sp_is_whole K)) : Pr P w K mg base 2 "are_wholes" ["value", "many"] (sp_are_wholes K) := by
  refine pr_of D sc_are_wholes ?_ (fun _ _ _ _ _ _ us hl => match us, hl with | [_, _], _ => rfl) (fun f cdv A outer s H vs Q E hr h => ?_)
  · rintro vs H Q E ⟨⟨x, ns, rfl, _⟩, _⟩
    rfl
  · obtain ⟨⟨x, ns, rfl, hx, hl⟩, k⟩ := h
    refine ⟨_, (pss_one (ps_ret (pe_and (pe_callB call_isi (by rfl) T.n_isinstance b_isinstance (pa_cons (pv 0) (pa_cons (pe_bltn (by rfl) T.n_tuple (v := .ty "tuple") b_tuple rfl) pa_nil))) (pe_and (pe_cmpR op_eq (pe_callB cl_len (by rfl) T.n_len b_len (pa_cons (pv 0) pa_nil)) (pv 1) (nomark _)) (pe_one (pe_callB (cr_all rfl) (by rfl) T.n_all b_all (pa_cons (pe_lc (own := [("number", 2)]) (g := gName 2) rfl sc_are_wholes.nd (pi_tup (pv 0)) (blkOk_by (N := ["value", "many", "number"]) (sc := defScope st_are_wholes) (by decide +kernel)) (fun _ _ _ _ _ => pg_name (i := 2) sc_are_wholes.nd rfl (by first | exact Or.inl rfl | exact Or.inr rfl)) (fun _ _ _ _ _ => pts_nil) (fun _ _ _ _ _ => (pe_c G_is_whole (hr.mono (by decide)) (by rfl) (pa_cons (pv 2) pa_nil)))) pa_nil))))))), ?_⟩
    walk_at "st"
    refine r_T (decide_eq_true (by rw [List.length_map])) ?_
    walk_at "rd"
    refine r_compT hx (by rw [List.length_map]; omega) (fun _ z _ => z = .bl true) (fun _ _ _ _ _ h => h) (fun _ => rfl) ?_ ?_
    · intro i y H1 Q' hy e q
      obtain ⟨n, rfl, -⟩ := map_at hy
      walk_at "rd"
      refine u_is_whole ?_
      exact q _ _ (Same.refl _) rfl
    · intro L H' ys hL e hL' hl' hr'
      walk_at "rd"
      refine r_allF (fun _ => true) hL' hr' ?_
      rw [List.all_eq_true.mpr fun _ _ => rfl]
      exact k _ e
theorem ok_is_reduced (D : Df K mg "is_reduced" st_is_reduced) (G_divisor_of : Pr P w K mg base 1 "divisor_of" ["numbers"] (sp_divisor_of K)) : Pr P w K mg base 2 "is_reduced" ["numbers"] (sp_is_reduced K) := by
  refine pr_of D sc_is_reduced ?_ (fun _ _ _ _ _ _ us hl => match us, hl with | [_], _ => rfl) (fun f cdv A outer s H vs Q E hr h => ?_)
  · rintro vs H Q E ⟨x, ns, rfl, _⟩
    rfl
  · obtain ⟨x, ns, rfl, hx, hg, k⟩ := h
    refine ⟨_, (pss_one (ps_ret (pe_cmpR op_eq (pe_c G_divisor_of (hr.mono (by decide)) (by rfl) (pa_cons (pv 0) pa_nil)) pe_int (nomark _)))), ?_⟩
    walk_at "st"
    refine u_divisor_of hx ?_
    walk_at "rd"
    rw [hg]
    exact k
theorem fr_ints {x : V} {q : Rat} {H : Hp} (h : Fr K H x q) : Tp K H x (([q.num, (q.den : Int)] : List Int).map V.int) := h
theorem pl_ints {v : V} {x y w : Int} {H : Hp} (h : Tp K H v [.int x, .int y, .int w]) : Tp K H v (([x, y, w] : List Int).map V.int) := h
theorem ok_is_ratio (D : Df K mg "is_ratio" st_is_ratio) (G_are_wholes : Pr P w K mg base 2 "are_wholes" ["value", "many"] (sp_are_wholes K)) (G_is_reduced : Pr P w K mg base 2 "is_reduced" ["numbers"] (sp_is_reduced K)) : Pr P w K mg base 3 "is_ratio" ["value"] (sp_is_ratio K) := by
  refine pr_of D sc_is_ratio ?_ (fun _ _ _ _ _ _ us hl => match us, hl with | [_], _ => rfl) (fun f cdv A outer s H vs Q E hr h => ?_)
  · rintro vs H Q E ⟨⟨x, q, rfl, _⟩, _⟩
    rfl
  · obtain ⟨⟨x, q, rfl, hx⟩, k⟩ := h
    refine ⟨_, (pss_one (ps_ret (pe_and (pe_c G_are_wholes (hr.mono (by decide)) (by rfl) (pa_cons (pv 0) (pa_cons pe_int pa_nil))) (pe_and (pe_cmpR op_gt (pe_ix ix_tup (pv 0) pe_int (fun _ _ => rfl)) pe_int (nomark _)) (pe_one (pe_c G_is_reduced (hr.mono (by decide)) (by rfl) (pa_cons (pv 0) pa_nil))))))), ?_⟩
    walk_at "st"
    refine u_are_wholes (fr_ints hx) (by show 2 ≤ 10; decide) fun H1 e1 => ?_
    walk_at "rd"
    refine r_T (decide_eq_true (den_pos q)) ?_
    walk_at "rd"
    refine u_is_reduced (fr_ints (hx.nx (Nx.of e1))) (by rw [gl_two]; exact gcd_rat q) ?_
    exact k _ e1
theorem ok_is_spot (D : Df K mg "is_spot" st_is_spot) (G_are_wholes : Pr P w K mg base 2 "are_wholes" ["value", "many"] (sp_are_wholes K)) (G_is_reduced : Pr P w K mg base 2 "is_reduced" ["numbers"] (sp_is_reduced K)) : Pr P w K mg base 3 "is_spot" ["value"] (sp_is_spot K) := by
  refine pr_of D sc_is_spot ?_ (fun _ _ _ _ _ _ us hl => match us, hl with | [_], _ => rfl) (fun f cdv A outer s H vs Q E hr h => ?_)
  · rintro vs H Q E ⟨⟨v, x, y, w, rfl, _⟩, _⟩
    rfl
  · obtain ⟨⟨v, x, y, w', rfl, hv, hp⟩, k⟩ := h
    refine ⟨_, (pss_one (ps_ret (pe_and (pe_c G_are_wholes (hr.mono (by decide)) (by rfl) (pa_cons (pv 0) (pa_cons pe_int pa_nil))) (pe_and (pe_cmpR op_gt (pe_ix ix_tup (pv 0) pe_int (fun _ _ => rfl)) pe_int (nomark _)) (pe_one (pe_c G_is_reduced (hr.mono (by decide)) (by rfl) (pa_cons (pv 0) pa_nil))))))), ?_⟩
    walk_at "st"
    refine u_are_wholes (pl_ints hv) (by show 3 ≤ 10; decide) fun H1 e1 => ?_
    walk_at "rd"
    refine r_T (decide_eq_true hp.2.1) ?_
    walk_at "rd"
    refine u_is_reduced (pl_ints (hv.nx (Nx.of e1))) (by rw [gl_three]; exact hp.2.2) ?_
    exact k _ e1
theorem ok_is_ahead (D : Df K mg "is_ahead" st_is_ahead) (G_is_spot : Pr P w K mg base 3 "is_spot" ["value"] (sp_is_spot K)) : Pr P w K mg base 4 "is_ahead" ["value"] (sp_is_ahead K) := by
  refine pr_of D sc_is_ahead ?_ (fun _ _ _ _ _ _ us hl => match us, hl with | [_], _ => rfl) (fun f cdv A outer s H vs Q E hr h => ?_)
  · rintro vs H Q E ⟨⟨v, x, y, w, rfl, _⟩, _⟩
    rfl
  · obtain ⟨⟨v, x, y, w', rfl, hv, hp⟩, k⟩ := h
    refine ⟨_, (pss_one (ps_ret (pe_and (pe_c G_is_spot (hr.mono (by decide)) (by rfl) (pa_cons (pv 0) pa_nil)) (pe_one (pe_cmpR op_gt (pe_ix ix_tup (pv 0) pe_int (fun _ _ => rfl)) pe_int (nomark _)))))), ?_⟩
    walk_at "st"
    refine u_is_spot hv hp fun H1 e1 => ?_
    walk_at "rd"
    rw [decide_eq_true hp.1]
    exact k _ e1
theorem ok_far_of (D : Df K mg "far_of" st_far_of) (G_ratio : Pr P w K mg base 2 "ratio" ["number", "under"] (sp_ratio K)) : Pr P w K mg base 3 "far_of" ["place"] (sp_far_of K) := by
  refine pr_of D sc_far_of ?_ (fun _ _ _ _ _ _ us hl => match us, hl with | [_], _ => rfl) (fun f cdv A outer s H vs Q E hr h => ?_)
  · rintro vs H Q E ⟨v, x, y, w, rfl, _⟩
    rfl
  · obtain ⟨v, x, y, w', rfl, hv, h0, bx, bw, k⟩ := h
    refine ⟨_, (pss_one (ps_ret (pe_c G_ratio (hr.mono (by decide)) (by rfl) (pa_cons (pe_ix ix_tup (pv 0) pe_int (fun _ _ => rfl)) (pa_cons (pe_ix ix_tup (pv 0) pe_int (fun _ _ => rfl)) pa_nil))))), ?_⟩
    walk_at "st"
    exact u_ratio h0 bx bw (by decide) (by decide) k
theorem ok_tall_of (D : Df K mg "tall_of" st_tall_of) (G_ratio : Pr P w K mg base 2 "ratio" ["number", "under"] (sp_ratio K)) : Pr P w K mg base 3 "tall_of" ["place"] (sp_tall_of K) := by
  refine pr_of D sc_tall_of ?_ (fun _ _ _ _ _ _ us hl => match us, hl with | [_], _ => rfl) (fun f cdv A outer s H vs Q E hr h => ?_)
  · rintro vs H Q E ⟨v, x, y, w, rfl, _⟩
    rfl
  · obtain ⟨v, x, y, w', rfl, hv, h0, bx, bw, k⟩ := h
    refine ⟨_, (pss_one (ps_ret (pe_c G_ratio (hr.mono (by decide)) (by rfl) (pa_cons (pe_ix ix_tup (pv 0) pe_int (fun _ _ => rfl)) (pa_cons (pe_ix ix_tup (pv 0) pe_int (fun _ _ => rfl)) pa_nil))))), ?_⟩
    walk_at "st"
    exact u_ratio h0 bx bw (by decide) (by decide) k
theorem ok_bent_ratio (D : Df K mg "bent_ratio" st_bent_ratio) (G_ratio_sum : Pr P w K mg base 3 "ratio_sum" ["one", "two"] (sp_ratio_sum K)) (G_ratio_product : Pr P w K mg base 3 "ratio_product" ["one", "two"] (sp_ratio_product K)) : Pr P w K mg base 4 "bent_ratio" ["bent", "number"] (sp_bent_ratio K) := by
  refine pr_of D sc_bent_ratio ?_ (fun _ _ _ _ _ _ us hl => match us, hl with | [_, _], _ => rfl) (fun f cdv A outer s H vs Q E hr h => ?_)
  · rintro vs H Q E ⟨v, x, c', d', e', c, d, e, s, rfl, _⟩
    rfl
  · obtain ⟨v, x, c', d', e', c, d, e, s, rfl, hv, hc, hd, he, hx, bc, bd, be, bs, k⟩ := h
    refine ⟨_, (pss_one (ps_ret (pe_c G_ratio_sum (hr.mono (by decide)) (by rfl) (pa_cons (pe_ix ix_tup (pv 0) pe_int (fun _ _ => rfl)) (pa_cons (pe_c G_ratio_product (hr.mono (by decide)) (by rfl) (pa_cons (pv 1) (pa_cons (pe_c G_ratio_sum (hr.mono (by decide)) (by rfl) (pa_cons (pe_ix ix_tup (pv 0) pe_int (fun _ _ => rfl)) (pa_cons (pe_c G_ratio_product (hr.mono (by decide)) (by rfl) (pa_cons (pe_ix ix_tup (pv 0) pe_int (fun _ _ => rfl)) (pa_cons (pv 1) pa_nil))) pa_nil))) pa_nil))) pa_nil))))), ?_⟩
    walk_at "st"
    exact k _ _ (by walk_at "sm") (by assumption)
theorem ok_is_stream_pair (D : Df K mg "is_stream_pair" st_is_stream_pair) (T : Txt K mg z0 z1 z2 z4 zu zp zs zb zl) (G_is_ratio : Pr P w K mg base 3 "is_ratio" ["value"] (sp_is_ratio K)) : Pr P w K mg base 4 "is_stream_pair" ["value"] (sp_is_stream_pair K) := by
  refine pr_of D sc_is_stream_pair ?_ (fun _ _ _ _ _ _ us hl => match us, hl with | [_], _ => rfl) (fun f cdv A outer s H vs Q E hr h => ?_)
  · rintro vs H Q E ⟨⟨v, s, b, rfl, _⟩, _⟩
    rfl
  · obtain ⟨⟨v, s, b, rfl, ⟨x, y, hv, hx, hy⟩, h0⟩, k⟩ := h
    refine ⟨_, (pss_cons (ps_if (PW.pt (pw_or (pt_not (pt_val (pe_callB call_isi (by rfl) T.n_isinstance b_isinstance (pa_cons (pv 0) (pa_cons (pe_bltn (by rfl) T.n_tuple (v := .ty "tuple") b_tuple rfl) pa_nil))))) (pw_or1 (pt_cmpR op_ne (pe_callB cl_len (by rfl) T.n_len b_len (pa_cons (pv 0) pa_nil)) pe_int (nomark _))))) (pss_one (ps_ret pe_bl)) pss_nil) (pss_one (ps_ret (pe_and (pe_c G_is_ratio (hr.mono (by decide)) (by rfl) (pa_cons (pe_ix ix_tup (pv 0) pe_int (fun _ _ => rfl)) pa_nil)) (pe_and (pe_c G_is_ratio (hr.mono (by decide)) (by rfl) (pa_cons (pe_ix ix_tup (pv 0) pe_int (fun _ _ => rfl)) pa_nil)) (pe_one (pe_cmpR op_gt (pe_ix ix_tup (pe_ix ix_tup (pv 0) pe_int (fun _ _ => rfl)) pe_int (fun _ _ => rfl)) pe_int (nomark _)))))))), ?_⟩
    walk_at "st"
    rw [decide_eq_true (num_pos.mpr h0)]
    exact k _ (by walk_at "sm")
theorem ok_head_for (D : Df K mg "head_for" st_head_for) (T : Txt K mg z0 z1 z2 z4 zu zp zs zb zl) (G_ratio_over : Pr P w K mg base 3 "ratio_over" ["one", "two"] (sp_ratio_over K)) (G_ratio_sum : Pr P w K mg base 3 "ratio_sum" ["one", "two"] (sp_ratio_sum K)) (G_ratio_product : Pr P w K mg base 3 "ratio_product" ["one", "two"] (sp_ratio_product K)) : Pr P w K mg base 4 "head_for" ["slope", "bend"] (sp_head_for K) := by
  refine pr_of D sc_head_for ?_ (fun _ _ _ _ _ _ us hl => match us, hl with | [_, _], _ => rfl) (fun f cdv A outer s H vs Q E hr h => ?_)
  · rintro vs H Q E ⟨x, y, s, b, rfl, _⟩
    rfl
  · obtain ⟨x, y, s, b, rfl, hx, hy, h0, bs, bb, k⟩ := h
    refine ⟨_, (pss_one (ps_ret (pe_c G_ratio_over (hr.mono (by decide)) (by rfl) (pa_cons (pe_c G_ratio_sum (hr.mono (by decide)) (by rfl) (pa_cons (pe_glob (v := .ref _) (by rfl) T.g_UNIT rfl) (pa_cons (pe_c G_ratio_product (hr.mono (by decide)) (by rfl) (pa_cons (pv 0) (pa_cons (pv 0) pa_nil))) pa_nil))) (pa_cons (pe_c G_ratio_product (hr.mono (by decide)) (by rfl) (pa_cons (pe_glob (v := .ref _) (by rfl) T.g_FOUR rfl) (pa_cons (pv 1) pa_nil))) pa_nil))))), ?_⟩
    walk_at "st"
    exact k _ _ (by walk_at "sm") (by assumption)
theorem head_bd {s b : Rat} (h0 : 0 < b) (bs : Bd 1000 s) (bb : Bd 1000 b) : Bd 4000 (headOf s b) :=
  (Bd.div (Bd.add Bd.one (Bd.mul bs bs)) (Bd.mul Bd.four bb) (Rat.mul_pos four_pos h0)).mono (by decide)
theorem ok_is_of_head (D : Df K mg "is_of_head" st_is_of_head) (G_is_lower : Pr P w K mg base 1 "is_lower" ["one", "two"] (sp_is_lower K)) (G_head_for : Pr P w K mg base 4 "head_for" ["slope", "bend"] (sp_head_for K)) : Pr P w K mg base 5 "is_of_head" ["jet", "head"] (sp_is_of_head K) := by
  refine pr_of D sc_is_of_head ?_ (fun _ _ _ _ _ _ us hl => match us, hl with | [_, _], _ => rfl) (fun f cdv A outer s H vs Q E hr h => ?_)
  · rintro vs H Q E ⟨v, x, s, b, h, rfl, _⟩
    rfl
  · obtain ⟨v, x, s, b, h, rfl, ⟨x', y', hv, hs, hb⟩, hx, h0, bs, bb, bh, k⟩ := h
    refine ⟨_, (pss_one (ps_ret (pe_not (pe_c G_is_lower (hr.mono (by decide)) (by rfl) (pa_cons (pv 1) (pa_cons (pe_c G_head_for (hr.mono (by decide)) (by rfl) (pa_cons (pe_ix ix_tup (pv 0) pe_int (fun _ _ => rfl)) (pa_cons (pe_ix ix_tup (pv 0) pe_int (fun _ _ => rfl)) pa_nil))) pa_nil)))))), ?_⟩
    have bo := head_bd h0 bs bb
    walk_at "st"
    refine u_head_for hs hb h0 bs bb fun u H1 e1 hu => ?_
    walk_at "rd"
    exact k _ e1
end
end K17
/-! Asks: what is one, which kind, its bound, whether a jet does it. -/
namespace K17
set_option linter.all false
set_option maxRecDepth 100000
set_option maxHeartbeats 4000000
open PySem PySem.Spec PyProof.Rows L2
def sp_is_asking (K : PySem.W.Frag) : Sp := spYes fun vs H => ∃ v k, vs = [v] ∧ AskAt K H v k ∧ k.ok 300
def sp_is_steep (K : PySem.W.Frag) : Sp := fun vs H Q _ => ∃ v k, vs = [v] ∧ AskAt K H v k ∧ Q (.bl (steep k)) H
def sp_is_least (K : PySem.W.Frag) : Sp := fun vs H Q _ => ∃ v k, vs = [v] ∧ AskAt K H v k ∧ Q (.bl (least k)) H
/-- three fractions in a tuple -/
def Bent (K : PySem.W.Frag) (H : Hp) (v : V) (c d e : Rat) : Prop := ∃ c' d' e', Tp K H v [c', d', e'] ∧ Fr K H c' c ∧ Fr K H d' d ∧ Fr K H e' e
def sp_line_under (K : PySem.W.Frag) : Sp := fun vs H Q _ => ∃ x y p q, vs = [x, y] ∧ Fr K H x p ∧ Fr K H y q ∧ 0 < p ∧ Bd 400 p ∧ Bd 400 q ∧ ∀ v H', Same H H' → Bent K H' v (-(q / (p * p))) (1 / p) 0 → Q v H'
/-- a list with one part, endless on both sides -/
def Part1 (K : PySem.W.Frag) (H : Hp) (v : V) (k : Ask) : Prop := ∃ l t b, v = .ref l ∧ H l = some (.lst [t]) ∧ Tp K H t [.non, .non, b] ∧ Bent K H b (coef k).1 (coef k).2.1 (coef k).2.2
theorem part1_of {K : PySem.W.Frag} {H : Hp} {k : Ask} {l : Addr} {t b c' d' e' : V} {c d e : Rat} (h1 : H l = some (.lst [t])) (h2 : Tp K H t [.non, .non, b]) (h3 : Tp K H b [c', d', e']) (h4 : Fr K H c' c) (h5 : Fr K H d' d) (h6 : Fr K H e' e) (hk : coef k = (c, d, e)) : Part1 K H (.ref l) k :=
  ⟨l, t, b, rfl, h1, h2, by rw [hk]; exact ⟨c', d', e', h3, h4, h5, h6⟩⟩
def sp_parts_of (K : PySem.W.Frag) : Sp := fun vs H Q _ => ∃ v k, vs = [v] ∧ AskAt K H v k ∧ k.ok 300 ∧ steep k = false ∧ ∀ u H', Same H H' → Part1 K H' u k → Q u H'
def sp_bent_at (K : PySem.W.Frag) : Sp := fun vs H Q _ => ∃ v x k, vs = [v, x] ∧ Part1 K H v k ∧ ∀ u, Bent K H u (coef k).1 (coef k).2.1 (coef k).2.2 → Q u H
def sp_bound_for (K : PySem.W.Frag) : Sp := fun vs H Q _ => ∃ v x k s, vs = [v, x] ∧ Part1 K H v k ∧ Fr K H x s ∧ Bd 1000 s ∧ k.ok 300 ∧ steep k = false ∧ ∀ u H', Same H H' → Fr K H' u (boundOf k s) → Q u H'
def sp_is_done (K : PySem.W.Frag) : Sp := fun vs H Q _ => ∃ j v s b k, vs = [j, v] ∧ JetAt K H j s b ∧ AskAt K H v k ∧ Bd 1000 s ∧ Bd 1000 b ∧ k.ok 300 ∧ ∀ H', Same H H' → Q (.bl (decide (k.done s b))) H'
/-- several asks -/
def AsksAt (K : PySem.W.Frag) (H : Hp) (vs : List V) (ks : List Ask) : Prop := vs.length = ks.length ∧ ∀ (i : Nat) (v : V), vs[i]? = some v → ∃ k, ks[i]? = some k ∧ AskAt K H v k
theorem AsksAt.nx {K : PySem.W.Frag} {H H' : Hp} {vs : List V} {ks : List Ask} (h : AsksAt K H vs ks) (n : Nx H H') : AsksAt K H' vs ks :=
  ⟨h.1, fun i v e => let ⟨k, a, b⟩ := h.2 i v e; ⟨k, a, b.nx n⟩⟩
def allDone (ks : List Ask) (s b : Rat) : Bool := ks.all fun k => decide (k.done s b)
/-- a tuple of asks -/
def Tuple (K : PySem.W.Frag) (H : Hp) (v : V) (ks : List Ask) : Prop := ∃ vs, Tp K H v vs ∧ AsksAt K H vs ks
theorem Tuple.nx {K : PySem.W.Frag} {H H' : Hp} {v : V} {ks : List Ask} (h : Tuple K H v ks) (n : Nx H H') : Tuple K H' v ks := let ⟨vs, a, b⟩ := h; ⟨vs, a.nx n, b.nx n⟩
def sp_are_done (K : PySem.W.Frag) : Sp := fun vs H Q _ => ∃ j v s b ks, vs = [j, v] ∧ JetAt K H j s b ∧ Tuple K H v ks ∧ Bd 1000 s ∧ Bd 1000 b ∧ (∀ k ∈ ks, k.ok 300) ∧ ks.length ≤ 8 ∧ ∀ H', Same H H' → Q (.bl (allDone ks s b)) H'
section
variable {K : PySem.W.Frag} {H : Hp} {Q : VK} {E : XK} {x y v j : V} {p q s b : Rat} {B C : Nat} {k : Ask} {ks : List Ask}
theorem u_is_asking (h : AskAt K H v k) (o : k.ok 300) (c : ∀ H', Same H H' → Q (.bl true) H') : sp_is_asking K ([v] ++ []) H Q E := ⟨⟨v, k, rfl, h, o⟩, c⟩
theorem u_is_steep (h : AskAt K H v k) (c : Q (.bl (steep k)) H) : sp_is_steep K ([v] ++ []) H Q E := ⟨v, k, rfl, h, c⟩
theorem u_is_least (h : AskAt K H v k) (c : Q (.bl (least k)) H) : sp_is_least K ([v] ++ []) H Q E := ⟨v, k, rfl, h, c⟩
theorem u_line_under (hx : Fr K H x p) (hy : Fr K H y q) (h0 : 0 < p) (bp : Bd B p) (bq : Bd C q) (hB : B ≤ 400) (hC : C ≤ 400) (c : ∀ v H', Same H H' → Bent K H' v (-(q / (p * p))) (1 / p) 0 → Q v H') : sp_line_under K ([x, y] ++ []) H Q E := ⟨x, y, p, q, rfl, hx, hy, h0, bp.mono hB, bq.mono hC, c⟩
theorem u_parts_of (h : AskAt K H v k) (o : k.ok 300) (st : steep k = false) (c : ∀ u H', Same H H' → Part1 K H' u k → Q u H') : sp_parts_of K ([v] ++ []) H Q E := ⟨v, k, rfl, h, o, st, c⟩
theorem u_bent_at (h : Part1 K H v k) (c : ∀ u, Bent K H u (coef k).1 (coef k).2.1 (coef k).2.2 → Q u H) : sp_bent_at K ([v, x] ++ []) H Q E := ⟨v, x, k, rfl, h, c⟩
theorem u_bound_for (h : Part1 K H v k) (hx : Fr K H x s) (bs : Bd 1000 s) (o : k.ok 300) (st : steep k = false) (c : ∀ u H', Same H H' → Fr K H' u (boundOf k s) → Q u H') : sp_bound_for K ([v, x] ++ []) H Q E := ⟨v, x, k, s, rfl, h, hx, bs, o, st, c⟩
theorem u_is_done (hj : JetAt K H j s b) (h : AskAt K H v k) (bs : Bd 1000 s) (bb : Bd 1000 b) (o : k.ok 300) (c : ∀ H', Same H H' → Q (.bl (decide (k.done s b))) H') : sp_is_done K ([j, v] ++ []) H Q E := ⟨j, v, s, b, k, rfl, hj, h, bs, bb, o, c⟩
theorem u_are_done (hj : JetAt K H j s b) (h : Tuple K H v ks) (bs : Bd 1000 s) (bb : Bd 1000 b) (o : ∀ k ∈ ks, k.ok 300) (l : ks.length ≤ 8) (c : ∀ H', Same H H' → Q (.bl (allDone ks s b)) H') : sp_are_done K ([j, v] ++ []) H Q E := ⟨j, v, s, b, ks, rfl, hj, h, bs, bb, o, l, c⟩
theorem dp_fr (h : Fr K H x p) : Dp K H x (.tuple [.int p.num, .int (p.den : Int)]) := by
  obtain ⟨a, rfl, s⟩ := h
  exact .tup s (.cons (.int _) (.cons (.int _) .nil))
theorem r_eqFr (hx : Fr K H x p) (hy : Fr K H y q) (h : Q (.bl (decide (p = q))) H) : rEqD K x y H Q := by
  refine ⟨_, _, dp_fr hx, dp_fr hy, rfl, rfl, ?_⟩
  have e : PyData.eqv (.tuple [.int p.num, .int (p.den : Int)]) (.tuple [.int q.num, .int (q.den : Int)]) = decide (p = q) := by
    show (p.num == q.num && ((p.den : Int) == (q.den : Int) && true)) = decide (p = q)
    rw [Bool.and_true]
    by_cases z : p = q
    · subst z
      simp
    · rw [decide_eq_false z]
      by_cases e1 : p.num = q.num
      · have e2 : ¬ (p.den : Int) = (q.den : Int) := fun e2 => z (Rat.ext e1 (by omega))
        simp [e2]
      · simp [e1]
  rw [e]
  exact h
end
local macro_rules | `(tactic| walk_at "bd") => `(tactic| first
  | with_reducible assumption
  | exact Bd.zero | exact Bd.one | exact Bd.two | exact Bd.four
  | ((with_reducible apply Bd.add) <;> walk_at "bd")
  | ((with_reducible apply Bd.sub) <;> walk_at "bd")
  | ((with_reducible apply Bd.mul) <;> walk_at "bd")
  | ((with_reducible apply Bd.div); (· walk_at "bd"); (· walk_at "bd"); (· walk_at "po"))
  | ((with_reducible apply Bd.neg) <;> walk_at "bd"))
local macro_rules | `(tactic| walk_at "bi") => `(tactic| first
  | with_reducible assumption
  | ((with_reducible apply Bd.bn) <;> walk_at "bd")
  | ((with_reducible apply Bd.bd) <;> walk_at "bd")
  | ((with_reducible apply Bi.mul) <;> walk_at "bi")
  | ((with_reducible apply Bi.add) <;> walk_at "bi")
  | ((with_reducible apply Bi.sub) <;> walk_at "bi")
  | ((with_reducible apply Bi.neg) <;> walk_at "bi"))
local macro_rules | `(tactic| walk_at "va") => `(tactic| first
  | with_reducible assumption
  | ((with_reducible apply VatAt.back); (· with_reducible assumption); walk_at "va"))
local macro_rules | `(tactic| walk_at "nx") => `(tactic| first
  | ((with_reducible apply Nx.of); with_reducible assumption)
  | ((with_reducible apply Nx.gov); (· with_reducible assumption); (· walk_at "va")))
local macro_rules | `(tactic| walk_at "fa") => `(tactic| first
  | with_reducible assumption
  | ((with_reducible apply tp_of); with_reducible assumption)
  | ((with_reducible apply Txt.t_ZERO); with_reducible assumption) | ((with_reducible apply Txt.t_ONE); with_reducible assumption) | ((with_reducible apply Txt.t_TWO); with_reducible assumption) | ((with_reducible apply Txt.t_FOUR); with_reducible assumption) | ((with_reducible apply Txt.t_UNIT); with_reducible assumption) | ((with_reducible apply Txt.t_PLACED); with_reducible assumption) | ((with_reducible apply Txt.t_STEEP); with_reducible assumption) | ((with_reducible apply Txt.t_BENT); with_reducible assumption) | ((with_reducible apply Txt.t_LEAST); with_reducible assumption)
  | ((with_reducible apply Fr.back); (· walk_at "nx"); walk_at "fa")
  | ((with_reducible apply Tp.back); (· walk_at "nx"); walk_at "fa")
  | ((with_reducible apply JetAt.back); (· walk_at "nx"); walk_at "fa")
  | ((with_reducible apply AskAt.back); (· walk_at "nx"); walk_at "fa"))
local macro_rules | `(tactic| walk_at "sm") => `(tactic| first
  | with_reducible assumption
  | with_reducible exact Same.refl _
  | (apply Same.back; (· with_reducible assumption); walk_at "sm"))
local macro_rules | `(tactic| walk_at "ls") => `(tactic| first
  | with_reducible assumption
  | ((with_reducible apply ls_back); (· with_reducible assumption); walk_at "ls"))
local macro_rules | `(tactic| walk_at "go") => `(tactic| first
  | with_reducible assumption
  | with_reducible exact Go.refl _
  | ((with_reducible apply Go.of); with_reducible assumption)
  | ((with_reducible apply Go.backS); (· with_reducible assumption); walk_at "go")
  | ((with_reducible apply Go.back); (· with_reducible assumption); walk_at "go"))
local macro_rules | `(tactic| walk_at "lg") => `(tactic| first
  | with_reducible assumption
  | ((with_reducible apply ls_back); (· with_reducible assumption); walk_at "lg")
  | ((with_reducible apply ls_go); (· with_reducible assumption); (· with_reducible assumption); walk_at "lg"))
local macro_rules | `(tactic| walk_at "sq") => `(tactic| first
  | with_reducible assumption
  | ((with_reducible apply SqL.of); walk_at "lg")
  | ((with_reducible apply sq_back); (· with_reducible assumption); walk_at "sq"))
local macro_rules | `(tactic| walk_at "fx") => `(tactic| first
  | walk_at "fa"
  | ((with_reducible apply Fr.tp); walk_at "fa"))
local macro_rules | `(tactic| walk_at "rd1") => `(tactic| first
  | with_reducible refine r_ret ?_ | with_reducible refine r_seq ?_ | with_reducible refine r_asg ?_ | with_reducible refine r_drop ?_ | with_reducible refine r_ifS ?_ | with_reducible refine r_par ?_ | with_reducible refine r_next ?_
  | with_reducible refine r_name ?_ | with_reducible refine r_gcons ?_ | with_reducible refine r_gnil ?_
  | ((with_reducible apply r_var); (· rfl))
  | with_reducible refine r_c ?_ | with_reducible refine r_op ?_ | with_reducible refine r_un ?_ | with_reducible refine r_call ?_ | with_reducible refine r_cb ?_ | with_reducible refine r_cons ?_ | with_reducible refine r_nil ?_
  | with_reducible refine r_tup ?_ | with_reducible refine r_lst ?_ | with_reducible refine r_if ?_ | with_reducible refine r_test ?_ | with_reducible refine r_B ?_ | with_reducible refine r_and ?_ | with_reducible refine r_or ?_ | with_reducible refine r_not ?_
  | with_reducible refine r_for ?_ | with_reducible refine r_iTup ?_ | with_reducible refine r_iList ?_ | with_reducible refine r_iEnumT ?_ | with_reducible refine r_iRng1 ?_ | with_reducible refine r_lcT ?_ | with_reducible refine r_lcL ?_ | with_reducible refine r_lcR ?_
  | with_reducible refine r_andV ?_ | with_reducible refine r_orV ?_ | with_reducible refine r_notV ?_ | with_reducible refine r_bl ?_
  | with_reducible refine r_I0 ?_ | with_reducible refine r_U ?_ | with_reducible refine r_par2 ?_
  | ((with_reducible refine r_eq ?_ ?_); (· rfl)) | ((with_reducible refine r_ne ?_ ?_); (· rfl))
  | ((with_reducible apply r_ixT); (· walk_at "fx"); (· first | rfl | exact atI_zero _ _))
  | ((with_reducible apply r_gtup); (· walk_at "fx"); (· rfl))
  | ((with_reducible apply r_mulW); (· walk_at "bi"); (· walk_at "bi"); (· first | omega | decide))
  | ((with_reducible apply r_isi_tt); (· walk_at "fx")) | with_reducible refine r_isi_ii ?_ | with_reducible refine r_isi_ib ?_ | with_reducible refine r_isi_ss ?_
  | with_reducible refine r_isNon ?_ | with_reducible refine r_isBl ?_
  | ((with_reducible apply r_lenT); (· walk_at "fx")) | with_reducible refine r_abs ?_ | with_reducible refine r_max ?_ | with_reducible refine r_min ?_ | with_reducible refine r_int ?_
  | ((with_reducible apply r_inT); (· walk_at "fx"); (· rfl); (· rfl)) | ((with_reducible apply r_niT); (· walk_at "fx"); (· rfl); (· rfl))
  | ((with_reducible apply r_inL); (· walk_at "ls"); (· rfl); (· rfl))
  | ((with_reducible apply r_tupOfL); (· walk_at "ls"); intro _ _ _ _ _)
  | ((with_reducible refine r_newT ?_ ?_); (· exact Nat.le_of_ble_eq_true rfl); intro _ _ _ _ _)
  | ((with_reducible refine r_newL ?_ ?_); (· exact Nat.le_of_ble_eq_true rfl); intro _ _ _ _ _)
  | ((with_reducible refine r_T ?_ ?_); (· first | rfl | with_reducible assumption))
  | ((with_reducible refine r_F ?_ ?_); (· first | rfl | with_reducible assumption)))
local macro_rules | `(tactic| walk_at "po") => `(tactic| first
  | with_reducible assumption
  | ((with_reducible apply Rat.mul_pos) <;> walk_at "po")
  | exact two_pos | exact four_pos)
local macro_rules | `(tactic| walk_at "sz") => `(tactic| first | omega | decide)
local macro_rules | `(tactic| walk_at "rd1") => `(tactic| first
  | ((with_reducible apply u_ratio_sum); (· walk_at "fa"); (· walk_at "fa"); (· walk_at "bd"); (· walk_at "bd"); (· walk_at "sz"); intro _ _ _ _)
  | ((with_reducible apply u_ratio_product); (· walk_at "fa"); (· walk_at "fa"); (· walk_at "bd"); (· walk_at "bd"); (· walk_at "sz"); intro _ _ _ _)
  | ((with_reducible apply u_ratio_over); (· walk_at "fa"); (· walk_at "fa"); (· walk_at "bd"); (· walk_at "bd"); (· walk_at "sz"); (· walk_at "po"); intro _ _ _ _)
  | ((with_reducible apply u_is_lower); (· walk_at "fa"); (· walk_at "fa"); (· walk_at "bd"); (· walk_at "bd"); (· walk_at "sz"))
  | ((with_reducible apply u_ratio_back); (· walk_at "fa"); intro _ _ _ _)
  | ((with_reducible apply u_is_ratio); (· walk_at "fa"); intro _ _))
local macro_rules | `(tactic| walk_at "rd1") => `(tactic| first
  | ((with_reducible apply u_l_add); (· walk_at "fa"); (· walk_at "fa"); (· walk_at "bd"); (· walk_at "bd"); (· walk_at "sz"); intro _ _ _ _)
  | ((with_reducible apply u_l_sub); (· walk_at "fa"); (· walk_at "fa"); (· walk_at "bd"); (· walk_at "bd"); (· walk_at "sz"); intro _ _ _ _)
  | ((with_reducible apply u_l_mul); (· walk_at "fa"); (· walk_at "fa"); (· walk_at "bd"); (· walk_at "bd"); (· walk_at "sz"); intro _ _ _ _)
  | ((with_reducible apply u_l_div); (· walk_at "fa"); (· walk_at "fa"); (· walk_at "bd"); (· walk_at "bd"); (· walk_at "sz"); (· walk_at "po"); intro _ _ _ _)
  | ((with_reducible apply u_l_less); (· walk_at "fa"); (· walk_at "fa"); (· walk_at "bd"); (· walk_at "bd"); (· walk_at "sz"))
  | ((with_reducible apply u_l_minus); (· walk_at "fa"); intro _ _ _ _))
local macro_rules | `(tactic| walk_at "rd1") => `(tactic| first
  | with_reducible refine r_sl ?_ | with_reducible refine r_part ?_ | with_reducible refine r_nopart ?_ | with_reducible refine r_some ?_ | with_reducible refine r_gsub ?_
  | ((with_reducible apply r_slL); (· walk_at "sq"); intro _ _ _ _ _)
  | ((with_reducible apply r_mulL); (· first | exact Or.inl (by decide) | exact Or.inr (by decide)))
  | ((with_reducible apply r_powL); (· exact ⟨by decide, by decide, by decide⟩))
  | ((with_reducible apply r_lenL); (· walk_at "sq"))
  | ((with_reducible apply r_ixL); (· walk_at "sq"); (· rfl))
  | ((with_reducible apply r_mod); (· first | with_reducible assumption | decide | omega))
  | ((with_reducible apply r_setL); (· walk_at "lg"); (· rfl); intro _ _ _)
  | ((with_reducible apply r_cat); (· walk_at "ls"); (· walk_at "ls"); (· first | omega | exact Nat.le_of_ble_eq_true rfl); intro _ _ _ _ _))
local macro_rules | `(tactic| walk_at "rd") => `(tactic| repeat walk_at "rd1")
local macro_rules | `(tactic| walk_at "st") => `(tactic| ((try simp only [cx_K]); walk_at "rd"))

section
variable {P : Program} {w : World} {K : PySem.W.Frag} {mg : Str → Option Value} {base : Heap} {z0 z1 z2 z4 zu zp zs zb zl : Addr}
theorem ok_is_steep (D : Df K mg "is_steep" st_is_steep) (T : Txt K mg z0 z1 z2 z4 zu zp zs zb zl) : Pr P w K mg base 1 "is_steep" ["ask"] (sp_is_steep K) := by
  refine pr_of D sc_is_steep ?_ (fun _ _ _ _ _ _ us hl => match us, hl with | [_], _ => rfl) (fun f cdv A outer s H vs Q E hr h => ?_)
  · rintro vs H Q E ⟨v, k, rfl, _⟩
    rfl
  · obtain ⟨v, k, rfl, hk, c⟩ := h
    refine ⟨_, (pss_one (ps_ret (pe_and (pe_cmpR op_in_seq (pe_ix ix_tup (pv 0) pe_int (fun _ _ => rfl)) (pe_glob (v := .ref _) (by rfl) T.g_STEEP rfl) (by rfl)) (pe_one (pe_cmpR (op_eqD hr.units) (pe_ix ix_tup (pv 0) pe_int (fun _ _ => rfl)) (pe_glob (v := .ref _) (by rfl) T.g_ZERO rfl) (nomark _)))))), ?_⟩
    cases k with
    | over x y w =>
      obtain ⟨p, hv, hp⟩ := hk
      walk_at "st"
      exact c
    | under x y w =>
      obtain ⟨p, hv, hp⟩ := hk
      walk_at "st"
      exact c
    | quick x =>
      obtain ⟨p, hv, hp⟩ := hk
      walk_at "st"
      exact c
    | slow x =>
      obtain ⟨p, hv, hp⟩ := hk
      walk_at "st"
      exact c
    | dives x m =>
      obtain ⟨p, r, hv, hp, hr'⟩ := hk
      walk_at "st"
      exact r_eqFr hp (T.t_ZERO _) c
    | climbs x m =>
      obtain ⟨p, r, hv, hp, hr'⟩ := hk
      walk_at "st"
      exact r_eqFr hp (T.t_ZERO _) c
theorem ok_is_least (D : Df K mg "is_least" st_is_least) (T : Txt K mg z0 z1 z2 z4 zu zp zs zb zl) : Pr P w K mg base 1 "is_least" ["ask"] (sp_is_least K) := by
  refine pr_of D sc_is_least ?_ (fun _ _ _ _ _ _ us hl => match us, hl with | [_], _ => rfl) (fun f cdv A outer s H vs Q E hr h => ?_)
  · rintro vs H Q E ⟨v, k, rfl, _⟩
    rfl
  · obtain ⟨v, k, rfl, hk, c⟩ := h
    refine ⟨_, (pss_one (ps_ret (pe_cmpR op_in_seq (pe_ix ix_tup (pv 0) pe_int (fun _ _ => rfl)) (pe_glob (v := .ref _) (by rfl) T.g_LEAST rfl) (by rfl)))), ?_⟩
    cases k with
    | over x y w =>
      obtain ⟨p, hv, hp⟩ := hk
      walk_at "st"
      exact c
    | under x y w =>
      obtain ⟨p, hv, hp⟩ := hk
      walk_at "st"
      exact c
    | quick x =>
      obtain ⟨p, hv, hp⟩ := hk
      walk_at "st"
      exact c
    | slow x =>
      obtain ⟨p, hv, hp⟩ := hk
      walk_at "st"
      exact c
    | dives x m =>
      obtain ⟨p, r, hv, hp, hr'⟩ := hk
      walk_at "st"
      exact c
    | climbs x m =>
      obtain ⟨p, r, hv, hp, hr'⟩ := hk
      walk_at "st"
      exact c
theorem ok_is_asking (D : Df K mg "is_asking" st_is_asking) (T : Txt K mg z0 z1 z2 z4 zu zp zs zb zl) (G_is_ratio : Pr P w K mg base 3 "is_ratio" ["value"] (sp_is_ratio K)) (G_is_ahead : Pr P w K mg base 4 "is_ahead" ["value"] (sp_is_ahead K)) : Pr P w K mg base 5 "is_asking" ["value"] (sp_is_asking K) := by
  refine pr_of D sc_is_asking ?_ (fun _ _ _ _ _ _ us hl => match us, hl with | [_], _ => rfl) (fun f cdv A outer s H vs Q E hr h => ?_)
  · rintro vs H Q E ⟨⟨v, k, rfl, _⟩, _⟩
    rfl
  · obtain ⟨⟨v, k, rfl, hk, o⟩, c⟩ := h
    refine ⟨_, (pss_cons (ps_if (PW.pt (pw_or (pt_not (pt_val (pe_callB call_isi (by rfl) T.n_isinstance b_isinstance (pa_cons (pv 0) (pa_cons (pe_bltn (by rfl) T.n_tuple (v := .ty "tuple") b_tuple rfl) pa_nil))))) (pw_or (pt_cmpR op_notIn_seq (pe_callB cl_len (by rfl) T.n_len b_len (pa_cons (pv 0) pa_nil)) (pe_tup (pa_cons pe_int (pa_cons pe_int pa_nil))) (by rfl)) (pw_or1 (pt_not (pt_val (pe_callB call_isi (by rfl) T.n_isinstance b_isinstance (pa_cons (pe_ix ix_tup (pv 0) pe_int (fun _ _ => rfl)) (pa_cons (pe_bltn (by rfl) T.n_str (v := .ty "str") b_str rfl) pa_nil))))))))) (pss_one (ps_ret pe_bl)) pss_nil) (pss_cons (ps_if (pt_cmpR op_eq (pe_callB cl_len (by rfl) T.n_len b_len (pa_cons (pv 0) pa_nil)) pe_int (nomark _)) (pss_cons (ps_if (pt_cmpR op_in_seq (pe_ix ix_tup (pv 0) pe_int (fun _ _ => rfl)) (pe_glob (v := .ref _) (by rfl) T.g_PLACED rfl) (by rfl)) (pss_one (ps_ret (pe_c G_is_ahead (hr.mono (by decide)) (by rfl) (pa_cons (pe_ix ix_tup (pv 0) pe_int (fun _ _ => rfl)) pa_nil)))) pss_nil) (pss_one (ps_ret (pe_and (pe_cmpR op_in_seq (pe_ix ix_tup (pv 0) pe_int (fun _ _ => rfl)) (pe_glob (v := .ref _) (by rfl) T.g_BENT rfl) (by rfl)) (pe_and (pe_c G_is_ratio (hr.mono (by decide)) (by rfl) (pa_cons (pe_ix ix_tup (pv 0) pe_int (fun _ _ => rfl)) pa_nil)) (pe_one (pe_cmpR op_gt (pe_ix ix_tup (pe_ix ix_tup (pv 0) pe_int (fun _ _ => rfl)) pe_int (fun _ _ => rfl)) pe_int (nomark _)))))))) pss_nil) (pss_cons (ps_if (pt_cmpR op_eq (pe_ix ix_tup (pv 0) pe_int (fun _ _ => rfl)) pe_str (nomark _)) pss_never pss_nil) (pss_one (ps_ret (pe_and (pe_cmpR op_in_seq (pe_ix ix_tup (pv 0) pe_int (fun _ _ => rfl)) (pe_glob (v := .ref _) (by rfl) T.g_STEEP rfl) (by rfl)) (pe_and (pe_c G_is_ratio (hr.mono (by decide)) (by rfl) (pa_cons (pe_ix ix_tup (pv 0) pe_int (fun _ _ => rfl)) pa_nil)) (pe_and (pe_cmpR op_ge (pe_ix ix_tup (pe_ix ix_tup (pv 0) pe_int (fun _ _ => rfl)) pe_int (fun _ _ => rfl)) pe_int (nomark _)) (pe_one (pe_c G_is_ratio (hr.mono (by decide)) (by rfl) (pa_cons (pe_ix ix_tup (pv 0) pe_int (fun _ _ => rfl)) pa_nil))))))))))), ?_⟩
    cases k with
    | over x y w =>
      obtain ⟨p, hv, hp⟩ := hk
      walk_at "st"
      exact u_is_ahead (by walk_at "fa") o.1 fun H2 e2 => c _ (by walk_at "sm")
    | under x y w =>
      obtain ⟨p, hv, hp⟩ := hk
      walk_at "st"
      exact u_is_ahead (by walk_at "fa") o.1 fun H2 e2 => c _ (by walk_at "sm")
    | quick x =>
      obtain ⟨p, hv, hp⟩ := hk
      walk_at "st"
      rw [decide_eq_true (num_pos.mpr o.1)]
      exact c _ (by walk_at "sm")
    | slow x =>
      obtain ⟨p, hv, hp⟩ := hk
      walk_at "st"
      rw [decide_eq_true (num_pos.mpr o.1)]
      exact c _ (by walk_at "sm")
    | dives x m =>
      obtain ⟨p, r, hv, hp, hr'⟩ := hk
      walk_at "st"
      refine r_T (decide_eq_true (Rat.num_nonneg.mpr o.1)) ?_
      walk_at "rd"
      exact c _ (by walk_at "sm")
    | climbs x m =>
      obtain ⟨p, r, hv, hp, hr'⟩ := hk
      walk_at "st"
      refine r_T (decide_eq_true (Rat.num_nonneg.mpr o.1)) ?_
      walk_at "rd"
      exact c _ (by walk_at "sm")
theorem ok_line_under (D : Df K mg "line_under" st_line_under) (T : Txt K mg z0 z1 z2 z4 zu zp zs zb zl) (G_ratio_product : Pr P w K mg base 3 "ratio_product" ["one", "two"] (sp_ratio_product K)) (G_ratio_back : Pr P w K mg base 1 "ratio_back" ["one"] (sp_ratio_back K)) (G_ratio_over : Pr P w K mg base 3 "ratio_over" ["one", "two"] (sp_ratio_over K)) : Pr P w K mg base 4 "line_under" ["distance", "height"] (sp_line_under K) := by
  refine pr_of D sc_line_under ?_ (fun _ _ _ _ _ _ us hl => match us, hl with | [_, _], _ => rfl) (fun f cdv A outer s H vs Q E hr h => ?_)
  · rintro vs H Q E ⟨x, y, p, q, rfl, _⟩
    rfl
  · obtain ⟨x, y, p, q, rfl, hx, hy, h0, bp, bq, c⟩ := h
    refine ⟨_, (pss_cons (ps_set (i := 2) sc_line_under.nd rfl (by first | exact Or.inl rfl | exact Or.inr rfl) (pe_c G_ratio_product (hr.mono (by decide)) (by rfl) (pa_cons (pv 0) (pa_cons (pv 0) pa_nil)))) (pss_one (ps_ret (pe_tup (pa_cons (pe_c G_ratio_back (hr.mono (by decide)) (by rfl) (pa_cons (pe_c G_ratio_over (hr.mono (by decide)) (by rfl) (pa_cons (pv 1) (pa_cons (pv 2) pa_nil))) pa_nil)) (pa_cons (pe_c G_ratio_over (hr.mono (by decide)) (by rfl) (pa_cons (pe_glob (v := .ref _) (by rfl) T.g_ONE rfl) (pa_cons (pv 0) pa_nil))) (pa_cons (pe_glob (v := .ref _) (by rfl) T.g_ZERO rfl) pa_nil))))))), ?_⟩
    walk_at "st"
    exact c _ _ (by walk_at "sm") ⟨_, _, _, by walk_at "fa", by walk_at "fa", by walk_at "fa", by walk_at "fa"⟩
theorem ok_parts_of (D : Df K mg "parts_of" st_parts_of) (T : Txt K mg z0 z1 z2 z4 zu zp zs zb zl) (G_ratio_over : Pr P w K mg base 3 "ratio_over" ["one", "two"] (sp_ratio_over K)) (G_ratio_product : Pr P w K mg base 3 "ratio_product" ["one", "two"] (sp_ratio_product K)) (G_line_under : Pr P w K mg base 4 "line_under" ["distance", "height"] (sp_line_under K)) (G_far_of : Pr P w K mg base 3 "far_of" ["place"] (sp_far_of K)) (G_tall_of : Pr P w K mg base 3 "tall_of" ["place"] (sp_tall_of K)) (G_ratio_back : Pr P w K mg base 1 "ratio_back" ["one"] (sp_ratio_back K)) : Pr P w K mg base 5 "parts_of" ["ask"] (sp_parts_of K) := by
  refine pr_of D sc_parts_of ?_ (fun _ _ _ _ _ _ us hl => match us, hl with | [_], _ => rfl) (fun f cdv A outer s H vs Q E hr h => ?_)
  · rintro vs H Q E ⟨v, k, rfl, _⟩
    rfl
  · obtain ⟨v, k, rfl, hk, o, sk, c⟩ := h
    refine ⟨_, (pss_cons (ps_set (i := 1) sc_parts_of.nd rfl (by first | exact Or.inl rfl | exact Or.inr rfl) (pe_ix ix_tup (pv 0) pe_int (fun _ _ => rfl))) (pss_cons (ps_if (pt_cmpR op_in_seq (pv 1) (pe_glob (v := .ref _) (by rfl) T.g_PLACED rfl) (by rfl)) (pss_one (ps_ret (pe_lst (pa_cons (pe_tup (pa_cons pe_non (pa_cons pe_non (pa_cons (pe_c G_line_under (hr.mono (by decide)) (by rfl) (pa_cons (pe_c G_far_of (hr.mono (by decide)) (by rfl) (pa_cons (pe_ix ix_tup (pv 0) pe_int (fun _ _ => rfl)) pa_nil)) (pa_cons (pe_c G_tall_of (hr.mono (by decide)) (by rfl) (pa_cons (pe_ix ix_tup (pv 0) pe_int (fun _ _ => rfl)) pa_nil)) pa_nil))) pa_nil)))) pa_nil)))) pss_nil) (pss_cons (ps_if (pt_cmpR op_eq (pv 1) pe_str (nomark _)) pss_never pss_nil) (pss_cons (ps_if (pt_cmpR op_eq (pv 1) pe_str (nomark _)) pss_never pss_nil) (pss_cons (ps_if (pt_cmpR op_in_seq (pv 1) (pe_glob (v := .ref _) (by rfl) T.g_STEEP rfl) (by rfl)) (pss_cons (ps_if (pt_cmpR (op_eqD hr.units) (pe_ix ix_tup (pv 0) pe_int (fun _ _ => rfl)) (pe_glob (v := .ref _) (by rfl) T.g_ZERO rfl) (nomark _)) pss_never pss_nil) (pss_cons (ps_set (i := 3) sc_parts_of.nd rfl (by first | exact Or.inl rfl | exact Or.inr rfl) (pe_c G_ratio_over (hr.mono (by decide)) (by rfl) (pa_cons (pe_glob (v := .ref _) (by rfl) T.g_ONE rfl) (pa_cons (pe_c G_ratio_product (hr.mono (by decide)) (by rfl) (pa_cons (pe_glob (v := .ref _) (by rfl) T.g_TWO rfl) (pa_cons (pe_ix ix_tup (pv 0) pe_int (fun _ _ => rfl)) pa_nil))) pa_nil)))) (pss_one (ps_ret (pe_lst (pa_cons (pe_tup (pa_cons pe_non (pa_cons pe_non (pa_cons (pe_tup (pa_cons (pe_c G_ratio_back (hr.mono (by decide)) (by rfl) (pa_cons (pe_c G_ratio_product (hr.mono (by decide)) (by rfl) (pa_cons (pv 3) (pa_cons (pe_ix ix_tup (pv 0) pe_int (fun _ _ => rfl)) pa_nil))) pa_nil)) (pa_cons (pv 3) (pa_cons (pe_glob (v := .ref _) (by rfl) T.g_ZERO rfl) pa_nil)))) pa_nil)))) pa_nil)))))) pss_nil) (pss_one (ps_ret (pe_lst (pa_cons (pe_tup (pa_cons pe_non (pa_cons pe_non (pa_cons (pe_tup (pa_cons (pe_ix ix_tup (pv 0) pe_int (fun _ _ => rfl)) (pa_cons (pe_glob (v := .ref _) (by rfl) T.g_ZERO rfl) (pa_cons (pe_glob (v := .ref _) (by rfl) T.g_ZERO rfl) pa_nil)))) pa_nil)))) pa_nil))))))))), ?_⟩
    cases k with
    | over x y w =>
      obtain ⟨p, hv, hp⟩ := hk
      walk_at "st"
      refine u_far_of (by walk_at "fa") o.1.2.1 o.2.1 o.2.2.2 (by decide) fun u1 H1 e1 h1 => ?_
      walk_at "rd"
      refine u_tall_of (by walk_at "fa") o.1.2.1 o.2.2.1 o.2.2.2 (by decide) fun u2 H2 e2 h2 => ?_
      walk_at "rd"
      refine u_line_under (by walk_at "fa") (by walk_at "fa") (divInt_pos o.1.1 o.1.2.1) (Bd.of o.1.2.1 o.2.1 o.2.2.2) (Bd.of o.1.2.1 o.2.2.1 o.2.2.2) (by decide) (by decide) fun u3 H3 e3 h3 => ?_
      obtain ⟨c', d', e', a1, a2, a3, a4⟩ := h3
      walk_at "rd"
      exact c _ _ (by walk_at "sm") (part1_of (by assumption) (by walk_at "fa") (by walk_at "fa") (by walk_at "fa") (by walk_at "fa") (by walk_at "fa") rfl)
    | under x y w =>
      obtain ⟨p, hv, hp⟩ := hk
      walk_at "st"
      refine u_far_of (by walk_at "fa") o.1.2.1 o.2.1 o.2.2.2 (by decide) fun u1 H1 e1 h1 => ?_
      walk_at "rd"
      refine u_tall_of (by walk_at "fa") o.1.2.1 o.2.2.1 o.2.2.2 (by decide) fun u2 H2 e2 h2 => ?_
      walk_at "rd"
      refine u_line_under (by walk_at "fa") (by walk_at "fa") (divInt_pos o.1.1 o.1.2.1) (Bd.of o.1.2.1 o.2.1 o.2.2.2) (Bd.of o.1.2.1 o.2.2.1 o.2.2.2) (by decide) (by decide) fun u3 H3 e3 h3 => ?_
      obtain ⟨c', d', e', a1, a2, a3, a4⟩ := h3
      walk_at "rd"
      exact c _ _ (by walk_at "sm") (part1_of (by assumption) (by walk_at "fa") (by walk_at "fa") (by walk_at "fa") (by walk_at "fa") (by walk_at "fa") rfl)
    | quick x =>
      obtain ⟨p, hv, hp⟩ := hk
      walk_at "st"
      exact c _ _ (by walk_at "sm") (part1_of (by assumption) (by walk_at "fa") (by walk_at "fa") (by walk_at "fa") (by walk_at "fa") (by walk_at "fa") rfl)
    | slow x =>
      obtain ⟨p, hv, hp⟩ := hk
      walk_at "st"
      exact c _ _ (by walk_at "sm") (part1_of (by assumption) (by walk_at "fa") (by walk_at "fa") (by walk_at "fa") (by walk_at "fa") (by walk_at "fa") rfl)
    | dives x m =>
      obtain ⟨p, r, hv, hp, hr'⟩ := hk
      obtain ⟨o1, ox, om⟩ := o
      have px := pos_of o1 sk
      walk_at "st"
      refine r_eqFr (by walk_at "fa") (by walk_at "fa") ?_
      walk_at "rd"
      refine r_F sk ?_
      walk_at "rd"
      exact c _ _ (by walk_at "sm") (part1_of (by assumption) (by walk_at "fa") (by walk_at "fa") (by walk_at "fa") (by walk_at "fa") (by walk_at "fa") rfl)
    | climbs x m =>
      obtain ⟨p, r, hv, hp, hr'⟩ := hk
      obtain ⟨o1, ox, om⟩ := o
      have px := pos_of o1 sk
      walk_at "st"
      refine r_eqFr (by walk_at "fa") (by walk_at "fa") ?_
      walk_at "rd"
      refine r_F sk ?_
      walk_at "rd"
      exact c _ _ (by walk_at "sm") (part1_of (by assumption) (by walk_at "fa") (by walk_at "fa") (by walk_at "fa") (by walk_at "fa") (by walk_at "fa") rfl)
theorem ok_bent_at (D : Df K mg "bent_at" st_bent_at) (G_is_lower : Pr P w K mg base 1 "is_lower" ["one", "two"] (sp_is_lower K)) : Pr P w K mg base 2 "bent_at" ["parts", "slope"] (sp_bent_at K) := by
  refine pr_of D sc_bent_at ?_ (fun _ _ _ _ _ _ us hl => match us, hl with | [_, _], _ => rfl) (fun f cdv A outer s H vs Q E hr h => ?_)
  · rintro vs H Q E ⟨v, x, k, rfl, _⟩
    rfl
  · obtain ⟨v, x, k, rfl, ⟨l, t, b, rfl, hl, ht, hb⟩, c⟩ := h
    refine ⟨_, (pss_cons (ps_for PassesOwn.never rfl (pi_list (pv 0)) (pg_tup (by rfl) (pgs_cons (pg_name (i := 2) sc_bent_at.nd rfl (by first | exact Or.inl rfl | exact Or.inr rfl)) (pgs_cons (pg_name (i := 3) sc_bent_at.nd rfl (by first | exact Or.inl rfl | exact Or.inr rfl)) (pgs_cons (pg_name (i := 4) sc_bent_at.nd rfl (by first | exact Or.inl rfl | exact Or.inr rfl)) pgs_nil)))) (pss_one (ps_if (PW.pt (pw_or (pt_cmpR op_isNon (pv 3) pe_non (nomark _)) (pw_or1 (pt_not (pt_val (pe_c G_is_lower (hr.mono (by decide)) (by rfl) (pa_cons (pv 3) (pa_cons (pv 1) pa_nil)))))))) (pss_one (ps_ret (pv 4))) pss_nil))) (pss_one (ps_ret pe_non))), ?_⟩
    walk_at "st"
    refine r_loopL (SqL.of hl) (fun i σ' H' => i = 0 ∧ H' = H ∧ σ' = [some (.ref l), some x, none, none, none]) ⟨rfl, rfl, rfl⟩ ?_ ?_ ?_
    · rintro i σ' H' ⟨_, rfl, _⟩
      exact SqL.of hl
    · rintro i y σ' H' hy ⟨rfl, rfl, rfl⟩
      obtain rfl : t = y := Option.some.inj hy
      walk_at "rd"
      exact c _ hb
    · rintro σ' H' ⟨h0, _⟩
      cases h0
theorem Part1.nx {H H' : Hp} {v : V} {k : Ask} (h : Part1 K H v k) (e : Same H H') : Part1 K H' v k := by
  obtain ⟨l, t, b, rfl, hl, ht, c', d', e', a1, a2, a3, a4⟩ := h
  exact ⟨l, t, b, rfl, e _ _ hl, ht.nx (Nx.of e), c', d', e', a1.nx (Nx.of e), a2.nx (Nx.of e), a3.nx (Nx.of e), a4.nx (Nx.of e)⟩
theorem ok_bound_for (D : Df K mg "bound_for" st_bound_for) (G_bent_ratio : Pr P w K mg base 4 "bent_ratio" ["bent", "number"] (sp_bent_ratio K)) (G_bent_at : Pr P w K mg base 2 "bent_at" ["parts", "slope"] (sp_bent_at K)) : Pr P w K mg base 5 "bound_for" ["parts", "slope"] (sp_bound_for K) := by
  refine pr_of D sc_bound_for ?_ (fun _ _ _ _ _ _ us hl => match us, hl with | [_, _], _ => rfl) (fun f cdv A outer s H vs Q E hr h => ?_)
  · rintro vs H Q E ⟨v, x, k, s, rfl, _⟩
    rfl
  · obtain ⟨v, x, k, s, rfl, hp, hx, bs, o, sk, c⟩ := h
    obtain ⟨b1, b2, b3⟩ := coef_bd o sk
    refine ⟨_, (pss_one (ps_ret (pe_c G_bent_ratio (hr.mono (by decide)) (by rfl) (pa_cons (pe_c G_bent_at (hr.mono (by decide)) (by rfl) (pa_cons (pv 0) (pa_cons (pv 1) pa_nil))) (pa_cons (pv 1) pa_nil))))), ?_⟩
    walk_at "st"
    refine u_bent_at hp fun u hu => ?_
    obtain ⟨c', d', e', a1, a2, a3, a4⟩ := hu
    walk_at "rd"
    exact u_bent_ratio a1 a2 a3 a4 hx b1 b2 b3 bs c
/-- the third item of a steep ask, its first one -/
theorem ok_is_done (D : Df K mg "is_done" st_is_done) (G_is_steep : Pr P w K mg base 1 "is_steep" ["ask"] (sp_is_steep K)) (G_bound_for : Pr P w K mg base 5 "bound_for" ["parts", "slope"] (sp_bound_for K)) (G_parts_of : Pr P w K mg base 5 "parts_of" ["ask"] (sp_parts_of K)) (G_is_least : Pr P w K mg base 1 "is_least" ["ask"] (sp_is_least K)) (G_is_lower : Pr P w K mg base 1 "is_lower" ["one", "two"] (sp_is_lower K)) : Pr P w K mg base 6 "is_done" ["jet", "ask"] (sp_is_done K) := by
  refine pr_of D sc_is_done ?_ (fun _ _ _ _ _ _ us hl => match us, hl with | [_, _], _ => rfl) (fun f cdv A outer s H vs Q E hr h => ?_)
  · rintro vs H Q E ⟨j, v, s, b, k, rfl, _⟩
    rfl
  · obtain ⟨j, v, s, b, k, rfl, ⟨x, y, hj, hx, hy⟩, hk, bs, bb, o, c⟩ := h
    refine ⟨_, (pss_cons (ps_asg (pv 0) (pg_tup (by rfl) (pgs_cons (pg_name (i := 3) sc_is_done.nd rfl (by first | exact Or.inl rfl | exact Or.inr rfl)) (pgs_cons (pg_name (i := 4) sc_is_done.nd rfl (by first | exact Or.inl rfl | exact Or.inr rfl)) pgs_nil)))) (pss_cons (ps_if (pt_val (pe_c G_is_steep (hr.mono (by decide)) (by rfl) (pa_cons (pv 1) pa_nil))) (pss_one (ps_ret (pe_ifExp (pt_cmpR op_eq (pe_ix ix_tup (pv 1) pe_int (fun _ _ => rfl)) pe_str (nomark _)) (pe_not (pe_c G_is_lower (hr.mono (by decide)) (by rfl) (pa_cons (pe_ix ix_tup (pv 1) pe_int (fun _ _ => rfl)) (pa_cons (pv 3) pa_nil)))) (pe_not (pe_c G_is_lower (hr.mono (by decide)) (by rfl) (pa_cons (pv 3) (pa_cons (pe_ix ix_tup (pv 1) pe_int (fun _ _ => rfl)) pa_nil))))))) pss_nil) (pss_cons (ps_set (i := 2) sc_is_done.nd rfl (by first | exact Or.inl rfl | exact Or.inr rfl) (pe_c G_bound_for (hr.mono (by decide)) (by rfl) (pa_cons (pe_c G_parts_of (hr.mono (by decide)) (by rfl) (pa_cons (pv 1) pa_nil)) (pa_cons (pv 3) pa_nil)))) (pss_one (ps_ret (pe_ifExp (pt_val (pe_c G_is_least (hr.mono (by decide)) (by rfl) (pa_cons (pv 1) pa_nil))) (pe_not (pe_c G_is_lower (hr.mono (by decide)) (by rfl) (pa_cons (pv 4) (pa_cons (pv 2) pa_nil)))) (pe_not (pe_c G_is_lower (hr.mono (by decide)) (by rfl) (pa_cons (pv 2) (pa_cons (pv 4) pa_nil)))))))))), ?_⟩
    walk_at "st"
    refine u_is_steep hk ?_
    walk_at "rd"
    refine r_ite (fun sk => ?_) (fun sk => ?_)
    · cases k with
      | over x y w => cases sk
      | under x y w => cases sk
      | quick x => cases sk
      | slow x => cases sk
      | dives z m =>
        obtain rfl : z = 0 := of_decide_eq_true sk
        obtain ⟨p, r, hv, hp, hr'⟩ := hk
        obtain ⟨-, -, om⟩ := o
        walk_at "rd"
        rw [done_dives0]
        exact c _ (Same.refl _)
      | climbs z m =>
        obtain rfl : z = 0 := of_decide_eq_true sk
        obtain ⟨p, r, hv, hp, hr'⟩ := hk
        obtain ⟨-, -, om⟩ := o
        walk_at "rd"
        rw [done_climbs0]
        exact c _ (Same.refl _)
    · obtain ⟨b1, b2, b3⟩ := coef_bd o sk
      have bo : Bd 6000 (boundOf k s) := bent_bd b1 b2 b3 bs
      walk_at "rd"
      refine u_parts_of hk o sk fun u1 H1 e1 h1 => ?_
      walk_at "rd"
      refine u_bound_for h1 (by walk_at "fa") bs o sk fun u2 H2 e2 h2 => ?_
      walk_at "rd"
      refine u_is_least (by walk_at "fa") ?_
      walk_at "rd"
      refine r_ite (fun lk => ?_) (fun lk => ?_)
      · walk_at "rd"
        rw [done_least o sk lk]
        exact c _ (by walk_at "sm")
      · walk_at "rd"
        rw [done_most o sk lk]
        exact c _ (by walk_at "sm")
end
end K17
/-! All asks; the looks at arguments; the three functions that the law asks. -/
namespace K17
set_option linter.all false
set_option maxRecDepth 100000
set_option maxHeartbeats 4000000
open PySem PySem.Spec PyProof.Rows L2
/-- a look that is passed -/
def spOk (P : List V → Hp → Prop) : Sp := fun vs H Q _ => P vs H ∧ ∀ H', Same H H' → Q .non H'
def sp_check_jet (K : PySem.W.Frag) : Sp := spOk fun vs H => ∃ v s b, vs = [v] ∧ JetAt K H v s b ∧ 0 < b
def sp_check_head (K : PySem.W.Frag) : Sp := spOk fun vs H => ∃ v q, vs = [v] ∧ Fr K H v q ∧ 0 < q
def sp_check_ask (K : PySem.W.Frag) : Sp := spOk fun vs H => ∃ v k, vs = [v] ∧ AskAt K H v k ∧ k.ok 300
def sp_check_asks (K : PySem.W.Frag) : Sp := spOk fun vs H => ∃ v ks, vs = [v] ∧ Tuple K H v ks ∧ (∀ k ∈ ks, k.ok 300) ∧ ks.length ≤ 8
def sp_does (K : PySem.W.Frag) : Sp := fun vs H Q _ => ∃ j v s b k, vs = [j, v] ∧ JetAt K H j s b ∧ 0 < b ∧ AskAt K H v k ∧ Bd 1000 s ∧ Bd 1000 b ∧ k.ok 300 ∧ ∀ H', Same H H' → Q (.bl (decide (k.done s b))) H'
def sp_does_all (K : PySem.W.Frag) : Sp := fun vs H Q _ => ∃ j v s b ks, vs = [j, v] ∧ JetAt K H j s b ∧ 0 < b ∧ Tuple K H v ks ∧ Bd 1000 s ∧ Bd 1000 b ∧ (∀ k ∈ ks, k.ok 300) ∧ ks.length ≤ 8 ∧ ∀ H', Same H H' → Q (.bl (allDone ks s b)) H'
def sp_is_good (K : PySem.W.Frag) : Sp := fun vs H Q _ => ∃ j x v s b h ks, vs = [j, x, v] ∧ JetAt K H j s b ∧ 0 < b ∧ Fr K H x h ∧ 0 < h ∧ Bd 1000 h ∧ Tuple K H v ks ∧ Bd 1000 s ∧ Bd 1000 b ∧ (∀ k ∈ ks, k.ok 300) ∧ ks.length ≤ 8 ∧
  ∀ H', Same H H' → Q (.bl (!decide (h < headOf s b) && allDone ks s b)) H'
section
variable {K : PySem.W.Frag} {H : Hp} {Q : VK} {E : XK} {x y v j : V} {h q s b : Rat} {B C : Nat} {k : Ask} {ks : List Ask}
theorem u_check_jet (hj : JetAt K H v s b) (h0 : 0 < b) (c : ∀ H', Same H H' → Q .non H') : sp_check_jet K ([v] ++ []) H Q E := ⟨⟨v, s, b, rfl, hj, h0⟩, c⟩
theorem u_check_head (hj : Fr K H v q) (h0 : 0 < q) (c : ∀ H', Same H H' → Q .non H') : sp_check_head K ([v] ++ []) H Q E := ⟨⟨v, q, rfl, hj, h0⟩, c⟩
theorem u_check_ask (hk : AskAt K H v k) (o : k.ok 300) (c : ∀ H', Same H H' → Q .non H') : sp_check_ask K ([v] ++ []) H Q E := ⟨⟨v, k, rfl, hk, o⟩, c⟩
theorem u_check_asks (hk : Tuple K H v ks) (o : ∀ k ∈ ks, k.ok 300) (l : ks.length ≤ 8) (c : ∀ H', Same H H' → Q .non H') : sp_check_asks K ([v] ++ []) H Q E := ⟨⟨v, ks, rfl, hk, o, l⟩, c⟩
theorem u_does (hj : JetAt K H j s b) (h0 : 0 < b) (hk : AskAt K H v k) (bs : Bd 1000 s) (bb : Bd 1000 b) (o : k.ok 300) (c : ∀ H', Same H H' → Q (.bl (decide (k.done s b))) H') : sp_does K [j, v] H Q E := ⟨j, v, s, b, k, rfl, hj, h0, hk, bs, bb, o, c⟩
theorem u_does_all (hj : JetAt K H j s b) (h0 : 0 < b) (hk : Tuple K H v ks) (bs : Bd 1000 s) (bb : Bd 1000 b) (o : ∀ k ∈ ks, k.ok 300) (l : ks.length ≤ 8) (c : ∀ H', Same H H' → Q (.bl (allDone ks s b)) H') : sp_does_all K [j, v] H Q E := ⟨j, v, s, b, ks, rfl, hj, h0, hk, bs, bb, o, l, c⟩
theorem u_is_good (hj : JetAt K H j s b) (h0 : 0 < b) (hx : Fr K H x h) (p0 : 0 < h) (bh : Bd 1000 h) (hk : Tuple K H v ks) (bs : Bd 1000 s) (bb : Bd 1000 b) (o : ∀ k ∈ ks, k.ok 300) (l : ks.length ≤ 8)
    (c : ∀ H', Same H H' → Q (.bl (!decide (h < headOf s b) && allDone ks s b)) H') : sp_is_good K [j, x, v] H Q E := ⟨j, x, v, s, b, h, ks, rfl, hj, h0, hx, p0, bh, hk, bs, bb, o, l, c⟩
end
local macro_rules | `(tactic| walk_at "bd") => `(tactic| first
  | with_reducible assumption
  | exact Bd.zero | exact Bd.one | exact Bd.two | exact Bd.four
  | ((with_reducible apply Bd.add) <;> walk_at "bd")
  | ((with_reducible apply Bd.sub) <;> walk_at "bd")
  | ((with_reducible apply Bd.mul) <;> walk_at "bd")
  | ((with_reducible apply Bd.div); (· walk_at "bd"); (· walk_at "bd"); (· walk_at "po"))
  | ((with_reducible apply Bd.neg) <;> walk_at "bd"))
local macro_rules | `(tactic| walk_at "bi") => `(tactic| first
  | with_reducible assumption
  | ((with_reducible apply Bd.bn) <;> walk_at "bd")
  | ((with_reducible apply Bd.bd) <;> walk_at "bd")
  | ((with_reducible apply Bi.mul) <;> walk_at "bi")
  | ((with_reducible apply Bi.add) <;> walk_at "bi")
  | ((with_reducible apply Bi.sub) <;> walk_at "bi")
  | ((with_reducible apply Bi.neg) <;> walk_at "bi"))
local macro_rules | `(tactic| walk_at "va") => `(tactic| first
  | with_reducible assumption
  | ((with_reducible apply VatAt.back); (· with_reducible assumption); walk_at "va"))
local macro_rules | `(tactic| walk_at "nx") => `(tactic| first
  | ((with_reducible apply Nx.of); with_reducible assumption)
  | ((with_reducible apply Nx.gov); (· with_reducible assumption); (· walk_at "va")))
local macro_rules | `(tactic| walk_at "fa") => `(tactic| first
  | with_reducible assumption
  | ((with_reducible apply tp_of); with_reducible assumption)
  | ((with_reducible apply Txt.t_ZERO); with_reducible assumption) | ((with_reducible apply Txt.t_ONE); with_reducible assumption) | ((with_reducible apply Txt.t_TWO); with_reducible assumption) | ((with_reducible apply Txt.t_FOUR); with_reducible assumption) | ((with_reducible apply Txt.t_UNIT); with_reducible assumption) | ((with_reducible apply Txt.t_PLACED); with_reducible assumption) | ((with_reducible apply Txt.t_STEEP); with_reducible assumption) | ((with_reducible apply Txt.t_BENT); with_reducible assumption) | ((with_reducible apply Txt.t_LEAST); with_reducible assumption)
  | ((with_reducible apply Fr.back); (· walk_at "nx"); walk_at "fa")
  | ((with_reducible apply Tp.back); (· walk_at "nx"); walk_at "fa")
  | ((with_reducible apply JetAt.back); (· walk_at "nx"); walk_at "fa")
  | ((with_reducible apply AskAt.back); (· walk_at "nx"); walk_at "fa"))
local macro_rules | `(tactic| walk_at "sm") => `(tactic| first
  | with_reducible assumption
  | with_reducible exact Same.refl _
  | (apply Same.back; (· with_reducible assumption); walk_at "sm"))
local macro_rules | `(tactic| walk_at "ls") => `(tactic| first
  | with_reducible assumption
  | ((with_reducible apply ls_back); (· with_reducible assumption); walk_at "ls"))
local macro_rules | `(tactic| walk_at "go") => `(tactic| first
  | with_reducible assumption
  | with_reducible exact Go.refl _
  | ((with_reducible apply Go.of); with_reducible assumption)
  | ((with_reducible apply Go.backS); (· with_reducible assumption); walk_at "go")
  | ((with_reducible apply Go.back); (· with_reducible assumption); walk_at "go"))
local macro_rules | `(tactic| walk_at "lg") => `(tactic| first
  | with_reducible assumption
  | ((with_reducible apply ls_back); (· with_reducible assumption); walk_at "lg")
  | ((with_reducible apply ls_go); (· with_reducible assumption); (· with_reducible assumption); walk_at "lg"))
local macro_rules | `(tactic| walk_at "sq") => `(tactic| first
  | with_reducible assumption
  | ((with_reducible apply SqL.of); walk_at "lg")
  | ((with_reducible apply sq_back); (· with_reducible assumption); walk_at "sq"))
local macro_rules | `(tactic| walk_at "fx") => `(tactic| first
  | walk_at "fa"
  | ((with_reducible apply Fr.tp); walk_at "fa"))
local macro_rules | `(tactic| walk_at "rd1") => `(tactic| first
  | with_reducible refine r_ret ?_ | with_reducible refine r_seq ?_ | with_reducible refine r_asg ?_ | with_reducible refine r_drop ?_ | with_reducible refine r_ifS ?_ | with_reducible refine r_par ?_ | with_reducible refine r_next ?_
  | with_reducible refine r_name ?_ | with_reducible refine r_gcons ?_ | with_reducible refine r_gnil ?_
  | ((with_reducible apply r_var); (· rfl))
  | with_reducible refine r_c ?_ | with_reducible refine r_op ?_ | with_reducible refine r_un ?_ | with_reducible refine r_call ?_ | with_reducible refine r_cb ?_ | with_reducible refine r_cons ?_ | with_reducible refine r_nil ?_
  | with_reducible refine r_tup ?_ | with_reducible refine r_lst ?_ | with_reducible refine r_if ?_ | with_reducible refine r_test ?_ | with_reducible refine r_B ?_ | with_reducible refine r_and ?_ | with_reducible refine r_or ?_ | with_reducible refine r_not ?_
  | with_reducible refine r_for ?_ | with_reducible refine r_iTup ?_ | with_reducible refine r_iList ?_ | with_reducible refine r_iEnumT ?_ | with_reducible refine r_iRng1 ?_ | with_reducible refine r_lcT ?_ | with_reducible refine r_lcL ?_ | with_reducible refine r_lcR ?_
  | with_reducible refine r_andV ?_ | with_reducible refine r_orV ?_ | with_reducible refine r_notV ?_ | with_reducible refine r_bl ?_
  | with_reducible refine r_I0 ?_ | with_reducible refine r_U ?_ | with_reducible refine r_par2 ?_
  | ((with_reducible refine r_eq ?_ ?_); (· rfl)) | ((with_reducible refine r_ne ?_ ?_); (· rfl))
  | ((with_reducible apply r_ixT); (· walk_at "fx"); (· first | rfl | exact atI_zero _ _))
  | ((with_reducible apply r_gtup); (· walk_at "fx"); (· rfl))
  | ((with_reducible apply r_mulW); (· walk_at "bi"); (· walk_at "bi"); (· first | omega | decide))
  | ((with_reducible apply r_isi_tt); (· walk_at "fx")) | with_reducible refine r_isi_ii ?_ | with_reducible refine r_isi_ib ?_ | with_reducible refine r_isi_ss ?_
  | with_reducible refine r_isNon ?_ | with_reducible refine r_isBl ?_
  | ((with_reducible apply r_lenT); (· walk_at "fx")) | with_reducible refine r_abs ?_ | with_reducible refine r_max ?_ | with_reducible refine r_min ?_ | with_reducible refine r_int ?_
  | ((with_reducible apply r_inT); (· walk_at "fx"); (· rfl); (· rfl)) | ((with_reducible apply r_niT); (· walk_at "fx"); (· rfl); (· rfl))
  | ((with_reducible apply r_inL); (· walk_at "ls"); (· rfl); (· rfl))
  | ((with_reducible apply r_tupOfL); (· walk_at "ls"); intro _ _ _ _ _)
  | ((with_reducible refine r_newT ?_ ?_); (· exact Nat.le_of_ble_eq_true rfl); intro _ _ _ _ _)
  | ((with_reducible refine r_newL ?_ ?_); (· exact Nat.le_of_ble_eq_true rfl); intro _ _ _ _ _)
  | ((with_reducible refine r_T ?_ ?_); (· first | rfl | with_reducible assumption))
  | ((with_reducible refine r_F ?_ ?_); (· first | rfl | with_reducible assumption)))
local macro_rules | `(tactic| walk_at "po") => `(tactic| first
  | with_reducible assumption
  | ((with_reducible apply Rat.mul_pos) <;> walk_at "po")
  | exact two_pos | exact four_pos)
local macro_rules | `(tactic| walk_at "sz") => `(tactic| first | omega | decide)
local macro_rules | `(tactic| walk_at "rd1") => `(tactic| first
  | ((with_reducible apply u_ratio_sum); (· walk_at "fa"); (· walk_at "fa"); (· walk_at "bd"); (· walk_at "bd"); (· walk_at "sz"); intro _ _ _ _)
  | ((with_reducible apply u_ratio_product); (· walk_at "fa"); (· walk_at "fa"); (· walk_at "bd"); (· walk_at "bd"); (· walk_at "sz"); intro _ _ _ _)
  | ((with_reducible apply u_ratio_over); (· walk_at "fa"); (· walk_at "fa"); (· walk_at "bd"); (· walk_at "bd"); (· walk_at "sz"); (· walk_at "po"); intro _ _ _ _)
  | ((with_reducible apply u_is_lower); (· walk_at "fa"); (· walk_at "fa"); (· walk_at "bd"); (· walk_at "bd"); (· walk_at "sz"))
  | ((with_reducible apply u_ratio_back); (· walk_at "fa"); intro _ _ _ _)
  | ((with_reducible apply u_is_ratio); (· walk_at "fa"); intro _ _))
local macro_rules | `(tactic| walk_at "rd1") => `(tactic| first
  | ((with_reducible apply u_l_add); (· walk_at "fa"); (· walk_at "fa"); (· walk_at "bd"); (· walk_at "bd"); (· walk_at "sz"); intro _ _ _ _)
  | ((with_reducible apply u_l_sub); (· walk_at "fa"); (· walk_at "fa"); (· walk_at "bd"); (· walk_at "bd"); (· walk_at "sz"); intro _ _ _ _)
  | ((with_reducible apply u_l_mul); (· walk_at "fa"); (· walk_at "fa"); (· walk_at "bd"); (· walk_at "bd"); (· walk_at "sz"); intro _ _ _ _)
  | ((with_reducible apply u_l_div); (· walk_at "fa"); (· walk_at "fa"); (· walk_at "bd"); (· walk_at "bd"); (· walk_at "sz"); (· walk_at "po"); intro _ _ _ _)
  | ((with_reducible apply u_l_less); (· walk_at "fa"); (· walk_at "fa"); (· walk_at "bd"); (· walk_at "bd"); (· walk_at "sz"))
  | ((with_reducible apply u_l_minus); (· walk_at "fa"); intro _ _ _ _))
local macro_rules | `(tactic| walk_at "rd1") => `(tactic| first
  | with_reducible refine r_sl ?_ | with_reducible refine r_part ?_ | with_reducible refine r_nopart ?_ | with_reducible refine r_some ?_ | with_reducible refine r_gsub ?_
  | ((with_reducible apply r_slL); (· walk_at "sq"); intro _ _ _ _ _)
  | ((with_reducible apply r_mulL); (· first | exact Or.inl (by decide) | exact Or.inr (by decide)))
  | ((with_reducible apply r_powL); (· exact ⟨by decide, by decide, by decide⟩))
  | ((with_reducible apply r_lenL); (· walk_at "sq"))
  | ((with_reducible apply r_ixL); (· walk_at "sq"); (· rfl))
  | ((with_reducible apply r_mod); (· first | with_reducible assumption | decide | omega))
  | ((with_reducible apply r_setL); (· walk_at "lg"); (· rfl); intro _ _ _)
  | ((with_reducible apply r_cat); (· walk_at "ls"); (· walk_at "ls"); (· first | omega | exact Nat.le_of_ble_eq_true rfl); intro _ _ _ _ _))
local macro_rules | `(tactic| walk_at "rd") => `(tactic| repeat walk_at "rd1")
local macro_rules | `(tactic| walk_at "st") => `(tactic| ((try simp only [cx_K]); walk_at "rd"))

section
variable {P : Program} {w : World} {K : PySem.W.Frag} {mg : Str → Option Value} {base : Heap} {z0 z1 z2 z4 zu zp zs zb zl : Addr}
theorem all_by_place {ks : List Ask} (g : Ask → Bool) : (List.range ks.length).all (fun i => ((ks[i]?).map g).getD true) = ks.all g := by
  rw [Bool.eq_iff_iff, List.all_eq_true, List.all_eq_true]
  constructor
  · intro h k hk
    obtain ⟨i, hi, e⟩ := List.mem_iff_getElem.mp hk
    have := h i (List.mem_range.mpr hi)
    rw [List.getElem?_eq_getElem hi, e] at this
    exact this
  · intro h i hi
    have hi := List.mem_range.mp hi
    rw [List.getElem?_eq_getElem hi]
    exact h _ (List.getElem_mem hi)
theorem ok_are_done (D : Df K mg "are_done" st_are_done) (T : Txt K mg z0 z1 z2 z4 zu zp zs zb zl) (G_is_done : Pr P w K mg base 6 "is_done" ["jet", "ask"] (sp_is_done K)) : Pr P w K mg base 7 "are_done" ["jet", "asks"] (sp_are_done K) := by
  refine pr_of D sc_are_done ?_ (fun _ _ _ _ _ _ us hl => match us, hl with | [_, _], _ => rfl) (fun f cdv A outer s H vs Q E hr h => ?_)
  · rintro vs H Q E ⟨j, v, s, b, ks, rfl, _⟩
    rfl
  · obtain ⟨j, v, s, b, ks, rfl, hj, ⟨us, hv, hl, hk⟩, bs, bb, o, l8, c⟩ := h
    refine ⟨_, (pss_one (ps_ret (pe_callB (cr_all rfl) (by rfl) T.n_all b_all (pa_cons (pe_lc (own := [("ask", 2)]) (g := gName 2) rfl sc_are_done.nd (pi_tup (pv 1)) (blkOk_by (N := ["jet", "asks", "ask"]) (sc := defScope st_are_done) (by decide +kernel)) (fun _ _ _ _ _ => pg_name (i := 2) sc_are_done.nd rfl (by first | exact Or.inl rfl | exact Or.inr rfl)) (fun _ _ _ _ _ => pts_nil) (fun _ _ _ _ _ => (pe_c G_is_done (hr.mono (by decide)) (by rfl) (pa_cons (pv 0) (pa_cons (pv 2) pa_nil))))) pa_nil)))), ?_⟩
    walk_at "st"
    refine r_compT hv (by omega) (fun i z _ => z = .bl (((ks[i]?).map fun k => decide (k.done s b)).getD true)) (fun _ _ _ _ _ h => h) (fun _ => rfl) ?_ ?_
    · intro i y H1 Q' hy e q
      obtain ⟨k, ek, hk'⟩ := hk i y hy
      walk_at "rd"
      refine u_is_done (hj.nx (Nx.of e)) (hk'.nx (Nx.of e)) bs bb (o k (List.mem_of_getElem? ek)) fun H2 e2 => ?_
      exact q _ _ e2 (by rw [ek]; rfl)
    · intro L H' ys hL e hL' hl' hr'
      walk_at "rd"
      refine r_allF _ hL' hr' ?_
      rw [hl', hl, all_by_place]
      exact c _ e
theorem ok_check_jet (D : Df K mg "check_jet" st_check_jet) (G_is_stream_pair : Pr P w K mg base 4 "is_stream_pair" ["value"] (sp_is_stream_pair K)) : Pr P w K mg base 5 "check_jet" ["value"] (sp_check_jet K) := by
  refine pr_of D sc_check_jet ?_ (fun _ _ _ _ _ _ us hl => match us, hl with | [_], _ => rfl) (fun f cdv A outer s H vs Q E hr h => ?_)
  · rintro vs H Q E ⟨⟨v, s, b, rfl, _⟩, _⟩
    rfl
  · obtain ⟨⟨v, s, b, rfl, hj, h0⟩, c⟩ := h
    refine ⟨_, (pss_one (ps_if (pt_not (pt_val (pe_c G_is_stream_pair (hr.mono (by decide)) (by rfl) (pa_cons (pv 0) pa_nil)))) (pss_one ps_never) pss_nil)), ?_⟩
    walk_at "st"
    refine u_is_stream_pair hj h0 fun H1 e1 => ?_
    walk_at "rd"
    exact c _ e1
theorem ok_check_head (D : Df K mg "check_head" st_check_head) (G_is_ratio : Pr P w K mg base 3 "is_ratio" ["value"] (sp_is_ratio K)) : Pr P w K mg base 4 "check_head" ["value"] (sp_check_head K) := by
  refine pr_of D sc_check_head ?_ (fun _ _ _ _ _ _ us hl => match us, hl with | [_], _ => rfl) (fun f cdv A outer s H vs Q E hr h => ?_)
  · rintro vs H Q E ⟨⟨v, q, rfl, _⟩, _⟩
    rfl
  · obtain ⟨⟨v, q, rfl, hj, h0⟩, c⟩ := h
    refine ⟨_, (pss_one (ps_if (PW.pt (pw_or (pt_not (pt_val (pe_c G_is_ratio (hr.mono (by decide)) (by rfl) (pa_cons (pv 0) pa_nil)))) (pw_or1 (pt_cmpR op_le (pe_ix ix_tup (pv 0) pe_int (fun _ _ => rfl)) pe_int (nomark _))))) (pss_one ps_never) pss_nil)), ?_⟩
    walk_at "st"
    refine r_F (decide_eq_false (by have := num_pos.mpr h0; omega)) ?_
    walk_at "rd"
    exact c _ (by walk_at "sm")
theorem ok_check_ask (D : Df K mg "check_ask" st_check_ask) (G_is_asking : Pr P w K mg base 5 "is_asking" ["value"] (sp_is_asking K)) : Pr P w K mg base 6 "check_ask" ["value"] (sp_check_ask K) := by
  refine pr_of D sc_check_ask ?_ (fun _ _ _ _ _ _ us hl => match us, hl with | [_], _ => rfl) (fun f cdv A outer s H vs Q E hr h => ?_)
  · rintro vs H Q E ⟨⟨v, k, rfl, _⟩, _⟩
    rfl
  · obtain ⟨⟨v, k, rfl, hk, o⟩, c⟩ := h
    refine ⟨_, (pss_one (ps_if (pt_not (pt_val (pe_c G_is_asking (hr.mono (by decide)) (by rfl) (pa_cons (pv 0) pa_nil)))) (pss_one ps_never) pss_nil)), ?_⟩
    walk_at "st"
    refine u_is_asking hk o fun H1 e1 => ?_
    walk_at "rd"
    exact c _ e1
theorem ok_check_asks (D : Df K mg "check_asks" st_check_asks) (T : Txt K mg z0 z1 z2 z4 zu zp zs zb zl) (G_is_asking : Pr P w K mg base 5 "is_asking" ["value"] (sp_is_asking K)) : Pr P w K mg base 6 "check_asks" ["value"] (sp_check_asks K) := by
  refine pr_of D sc_check_asks ?_ (fun _ _ _ _ _ _ us hl => match us, hl with | [_], _ => rfl) (fun f cdv A outer s H vs Q E hr h => ?_)
  · rintro vs H Q E ⟨⟨v, ks, rfl, _⟩, _⟩
    rfl
  · obtain ⟨⟨v, ks, rfl, ⟨us, hv, hl, hk⟩, o, l8⟩, c⟩ := h
    obtain ⟨a, rfl, sq⟩ := id hv
    obtain ⟨t8, g8⟩ := T.g_MOST
    refine ⟨_, (fun (g_MOST : mg "MOST_ASKS" = some (.int 8 t8)) => (pss_cons (ps_if (pt_not (pt_val (pe_callB call_isi (by rfl) T.n_isinstance b_isinstance (pa_cons (pv 0) (pa_cons (pe_bltn (by rfl) T.n_tuple (v := .ty "tuple") b_tuple rfl) pa_nil))))) (pss_one ps_never) pss_nil) (pss_one (ps_for PassesOwn.never rfl (pi_enumT (by rfl) T.n_enumerate (pa_cons (pv 0) pa_nil)) (pg_tup (by rfl) (pgs_cons (pg_name (i := 1) sc_check_asks.nd rfl (by first | exact Or.inl rfl | exact Or.inr rfl)) (pgs_cons (pg_name (i := 2) sc_check_asks.nd rfl (by first | exact Or.inl rfl | exact Or.inr rfl)) pgs_nil))) (pss_one (ps_if (PW.pt (pw_or (pt_cmpR op_eq (pv 1) (pe_glob (by rfl) g_MOST (v := .int 8) ⟨_, rfl⟩) (nomark _)) (pw_or1 (pt_not (pt_val (pe_c G_is_asking (hr.mono (by decide)) (by rfl) (pa_cons (pv 2) pa_nil))))))) (pss_one ps_never) pss_nil)))))) g8, ?_⟩
    walk_at "st"
    refine r_loopE sq (fun i σ' H' => Same H H' ∧ ∃ u1 u2, σ' = [some (.ref a), u1, u2]) ⟨Same.refl _, _, _, rfl⟩ ?_ ?_ ?_
    · rintro i σ' H' ⟨e, _⟩
      exact tp_sq (hv.nx (Nx.of e))
    · rintro i y T' σ' H' H2 hy ⟨e, u1, u2, rfl⟩ e2 ht
      obtain ⟨k, ek, hk'⟩ := hk i y hy
      have hi : i < 8 := by have := (List.getElem?_eq_some_iff.mp hy).1; omega
      walk_at "rd"
      refine r_F (decide_eq_false (fun z => by have := V.int.inj z; omega)) ?_
      walk_at "rd"
      refine u_is_asking (hk'.nx (Nx.of (e.trans e2))) (o k (List.mem_of_getElem? ek)) fun H3 e3 => ?_
      walk_at "rd"
      exact ⟨(e.trans e2).trans e3, _, _, rfl⟩
    · rintro σ' H' ⟨e, u1, u2, rfl⟩
      exact c _ e
theorem ok_does (D : Df K mg "does" st_does) (G_check_jet : Pr P w K mg base 5 "check_jet" ["value"] (sp_check_jet K)) (G_check_ask : Pr P w K mg base 6 "check_ask" ["value"] (sp_check_ask K)) (G_is_done : Pr P w K mg base 6 "is_done" ["jet", "ask"] (sp_is_done K)) : PrK P w K mg base 7 "does" ["jet", "ask"] (sp_does K) := by
  refine prk_of D sc_does ?_ (fun _ _ _ _ _ _ us hl => match us, hl with | [_, _], _ => rfl) (fun _ _ _ _ _ _ us hl => match us, hl with | [_, _], _ => rfl) (fun f cdv A outer s H vs Q E hr h => ?_)
  · rintro vs H Q E ⟨j, v, s, b, k, rfl, _⟩
    rfl
  · obtain ⟨j, v, s, b, k, rfl, hj, h0, hk, bs, bb, o, c⟩ := h
    refine ⟨_, (pss_cons (ps_expr (pe_c G_check_jet (hr.mono (by decide)) (by rfl) (pa_cons (pv 0) pa_nil))) (pss_cons (ps_expr (pe_c G_check_ask (hr.mono (by decide)) (by rfl) (pa_cons (pv 1) pa_nil))) (pss_one (ps_ret (pe_c G_is_done (hr.mono (by decide)) (by rfl) (pa_cons (pv 0) (pa_cons (pv 1) pa_nil))))))), ?_⟩
    walk_at "st"
    refine u_check_jet hj h0 fun H1 e1 => ?_
    walk_at "rd"
    refine u_check_ask (by walk_at "fa") o fun H2 e2 => ?_
    walk_at "rd"
    exact u_is_done (by walk_at "fa") (by walk_at "fa") bs bb o fun H3 e3 => c _ (by walk_at "sm")
theorem ok_does_all (D : Df K mg "does_all" st_does_all) (G_check_jet : Pr P w K mg base 5 "check_jet" ["value"] (sp_check_jet K)) (G_check_asks : Pr P w K mg base 6 "check_asks" ["value"] (sp_check_asks K)) (G_are_done : Pr P w K mg base 7 "are_done" ["jet", "asks"] (sp_are_done K)) : PrK P w K mg base 8 "does_all" ["jet", "asks"] (sp_does_all K) := by
  refine prk_of D sc_does_all ?_ (fun _ _ _ _ _ _ us hl => match us, hl with | [_, _], _ => rfl) (fun _ _ _ _ _ _ us hl => match us, hl with | [_, _], _ => rfl) (fun f cdv A outer s H vs Q E hr h => ?_)
  · rintro vs H Q E ⟨j, v, s, b, ks, rfl, _⟩
    rfl
  · obtain ⟨j, v, s, b, ks, rfl, hj, h0, hk, bs, bb, o, l8, c⟩ := h
    refine ⟨_, (pss_cons (ps_expr (pe_c G_check_jet (hr.mono (by decide)) (by rfl) (pa_cons (pv 0) pa_nil))) (pss_cons (ps_expr (pe_c G_check_asks (hr.mono (by decide)) (by rfl) (pa_cons (pv 1) pa_nil))) (pss_one (ps_ret (pe_c G_are_done (hr.mono (by decide)) (by rfl) (pa_cons (pv 0) (pa_cons (pv 1) pa_nil))))))), ?_⟩
    walk_at "st"
    refine u_check_jet hj h0 fun H1 e1 => ?_
    walk_at "rd"
    refine u_check_asks (hk.nx (Nx.of e1)) o l8 fun H2 e2 => ?_
    walk_at "rd"
    exact u_are_done (by walk_at "fa") (hk.nx (Nx.of (e1.trans e2))) bs bb o l8 fun H3 e3 => c _ (by walk_at "sm")
theorem ok_is_good (D : Df K mg "is_good" st_is_good) (G_check_jet : Pr P w K mg base 5 "check_jet" ["value"] (sp_check_jet K)) (G_check_head : Pr P w K mg base 4 "check_head" ["value"] (sp_check_head K)) (G_check_asks : Pr P w K mg base 6 "check_asks" ["value"] (sp_check_asks K)) (G_is_of_head : Pr P w K mg base 5 "is_of_head" ["jet", "head"] (sp_is_of_head K)) (G_are_done : Pr P w K mg base 7 "are_done" ["jet", "asks"] (sp_are_done K)) : PrK P w K mg base 8 "is_good" ["jet", "head", "asks"] (sp_is_good K) := by
  refine prk_of D sc_is_good ?_ (fun _ _ _ _ _ _ us hl => match us, hl with | [_, _, _], _ => rfl) (fun _ _ _ _ _ _ us hl => match us, hl with | [_, _, _], _ => rfl) (fun f cdv A outer s H vs Q E hr h => ?_)
  · rintro vs H Q E ⟨j, x, v, s, b, h, ks, rfl, _⟩
    rfl
  · obtain ⟨j, x, v, s, b, h, ks, rfl, hj, h0, hx, p0, bh, hk, bs, bb, o, l8, c⟩ := h
    refine ⟨_, (pss_cons (ps_expr (pe_c G_check_jet (hr.mono (by decide)) (by rfl) (pa_cons (pv 0) pa_nil))) (pss_cons (ps_expr (pe_c G_check_head (hr.mono (by decide)) (by rfl) (pa_cons (pv 1) pa_nil))) (pss_cons (ps_expr (pe_c G_check_asks (hr.mono (by decide)) (by rfl) (pa_cons (pv 2) pa_nil))) (pss_one (ps_ret (pe_and (pe_c G_is_of_head (hr.mono (by decide)) (by rfl) (pa_cons (pv 0) (pa_cons (pv 1) pa_nil))) (pe_one (pe_c G_are_done (hr.mono (by decide)) (by rfl) (pa_cons (pv 0) (pa_cons (pv 2) pa_nil)))))))))), ?_⟩
    walk_at "st"
    refine u_check_jet hj h0 fun H1 e1 => ?_
    walk_at "rd"
    refine u_check_head (by walk_at "fa") p0 fun H2 e2 => ?_
    walk_at "rd"
    refine u_check_asks (hk.nx (Nx.of (e1.trans e2))) o l8 fun H3 e3 => ?_
    walk_at "rd"
    refine u_is_of_head (by walk_at "fa") (by walk_at "fa") h0 bs bb bh fun H4 e4 => ?_
    walk_at "rd"
    have e34 : Same H H4 := by walk_at "sm"
    cases hd : decide (h < headOf s b) with
    | true =>
      rw [hd] at c
      exact c _ e34
    | false =>
      rw [hd] at c
      refine r_T rfl ?_
      walk_at "rd"
      exact u_are_done (by walk_at "fa") (hk.nx (Nx.of e34)) bs bb o l8 fun H5 e5 => c _ (e34.trans e5)
end
end K17
/-! The law's own numbers. -/
namespace K17
set_option linter.all false
set_option maxRecDepth 100000
set_option maxHeartbeats 4000000
open PySem PySem.Spec PyProof.Rows L2
def sp_l_gcd (K : PySem.W.Frag) : Sp := fun vs H Q _ => ∃ n m : Int, vs = [.int n, .int m] ∧ Q (.int (Nat.gcd n.natAbs m.natAbs : Nat)) H
def sp_l_low (K : PySem.W.Frag) : Sp := fun vs H Q _ => ∃ x ns, vs = [x] ∧ Tp K H x (ns.map V.int) ∧ 0 < gl ns ∧ gl ns < 2 ^ 8001 ∧ ns.length ≤ 10 ∧ ∀ v H', Same H H' → Tp K H' v (ns.map fun n => V.int (n / (gl ns : Nat))) → Q v H'
def sp_l_frac (K : PySem.W.Frag) : Sp := fun vs H Q _ => ∃ n m : Int, vs = [.int n, .int m] ∧ 0 < m ∧ Bi 8001 n ∧ Bi 8001 m ∧ ∀ v H', Same H H' → Fr K H' v (Rat.divInt n m) → Q v H'
def sp_l_add : PySem.W.Frag → Sp := sp_rat2 (fun p q => p + q) fun _ => True
def sp_l_sub : PySem.W.Frag → Sp := sp_rat2 (fun p q => p - q) fun _ => True
def sp_l_mul : PySem.W.Frag → Sp := sp_rat2 (fun p q => p * q) fun _ => True
def sp_l_div : PySem.W.Frag → Sp := sp_rat2 (fun p q => p / q) fun q => 0 < q
def sp_l_minus (K : PySem.W.Frag) : Sp := fun vs H Q _ => ∃ x p, vs = [x] ∧ Fr K H x p ∧ ∀ v H', Same H H' → Fr K H' v (-p) → Q v H'
def sp_l_less (K : PySem.W.Frag) : Sp := fun vs H Q _ => ∃ x y p q B C, vs = [x, y] ∧ Fr K H x p ∧ Fr K H y q ∧ Bd B p ∧ Bd C q ∧ B + C ≤ 8000 ∧ Q (.bl (decide (p < q))) H
/-- v is a place of such a size -/
def PlAt (K : PySem.W.Frag) (H : Hp) (v : V) (x y w : Int) : Prop := Tp K H v [.int x, .int y, .int w] ∧ Pl x y w ∧ Bi 300 x ∧ Bi 300 y ∧ Bi 300 w
def sp_l_spot (K : PySem.W.Frag) : Sp := fun vs H Q _ => ∃ x y p q B C, vs = [x, y] ∧ Fr K H x p ∧ Fr K H y q ∧ 0 < p ∧ Bd B p ∧ Bd C q ∧ B + C ≤ 300 ∧ ∀ v H' a b c, Same H H' → PlAt K H' v a b c → Q v H'
def sp_l_far (K : PySem.W.Frag) : Sp := fun vs H Q _ => ∃ v x y w, vs = [v] ∧ Tp K H v [.int x, .int y, .int w] ∧ 0 < w ∧ Bi 8000 x ∧ Bi 8000 w ∧ ∀ u H', Same H H' → Fr K H' u (Rat.divInt x w) → Q u H'
def sp_l_high (K : PySem.W.Frag) : Sp := fun vs H Q _ => ∃ v x y w, vs = [v] ∧ Tp K H v [.int x, .int y, .int w] ∧ 0 < w ∧ Bi 8000 y ∧ Bi 8000 w ∧ ∀ u H', Same H H' → Fr K H' u (Rat.divInt y w) → Q u H'
def sp_l_at (K : PySem.W.Frag) : Sp := fun vs H Q _ => ∃ j x s b d, vs = [j, x] ∧ JetAt K H j s b ∧ Fr K H x d ∧ Bd 1000 s ∧ Bd 1000 b ∧ Bd 1000 d ∧ ∀ u H', Same H H' → Fr K H' u (s * d - b * (d * d)) → Q u H'
def sp_l_rise (K : PySem.W.Frag) : Sp := fun vs H Q _ => ∃ j x s b d, vs = [j, x] ∧ JetAt K H j s b ∧ Fr K H x d ∧ Bd 1000 s ∧ Bd 1000 b ∧ Bd 1000 d ∧ ∀ u H', Same H H' → Fr K H' u (s - 2 * (b * d)) → Q u H'
def sp_l_head (K : PySem.W.Frag) : Sp := fun vs H Q _ => ∃ j s b, vs = [j] ∧ JetAt K H j s b ∧ 0 < b ∧ Bd 1000 s ∧ Bd 1000 b ∧ ∀ u H', Same H H' → Fr K H' u (headOf s b) → Q u H'
def sp_l_row (K : PySem.W.Frag) : Sp := fun vs H Q _ => ∃ v d k, vs = [v, d] ∧ AskAt K H v k ∧ k.ok 300 ∧ ∀ u H', Same H H' → Bent K H' u k.row.1 k.row.2.1 k.row.2.2 → Q u H'
def sp_l_worth (K : PySem.W.Frag) : Sp := fun vs H Q _ => ∃ v j r s b, vs = [v, j] ∧ Bent K H v r.1 r.2.1 r.2.2 ∧ JetAt K H j s b ∧ Bd 1000 r.1 ∧ Bd 1000 r.2.1 ∧ Bd 1000 r.2.2 ∧ Bd 1000 s ∧ Bd 1000 b ∧ ∀ u H', Same H H' → Fr K H' u (worthOf r s b) → Q u H'
def sp_l_does (K : PySem.W.Frag) : Sp := fun vs H Q _ => ∃ j v s b k, vs = [j, v] ∧ JetAt K H j s b ∧ AskAt K H v k ∧ Bd 1000 s ∧ Bd 1000 b ∧ k.ok 300 ∧ ∀ H', Same H H' → Q (.bl (decide (k.done s b))) H'
section
variable {K : PySem.W.Frag} {H : Hp} {Q : VK} {E : XK} {x y v j d : V} {h p q s b : Rat} {B C : Nat} {k : Ask} {ks : List Ask}
theorem u_l_gcd {n m : Int} (c : Q (.int (Nat.gcd n.natAbs m.natAbs : Nat)) H) : sp_l_gcd K ([.int n, .int m] ++ []) H Q E := ⟨n, m, rfl, c⟩
theorem u_l_low {ns : List Int} (h : Tp K H x (ns.map V.int)) (g0 : 0 < gl ns) (g1 : gl ns < 2 ^ 8001) (hl : ns.length ≤ 10) (c : ∀ v H', Same H H' → Tp K H' v (ns.map fun n => V.int (n / (gl ns : Nat))) → Q v H') : sp_l_low K ([x] ++ []) H Q E := ⟨x, ns, rfl, h, g0, g1, hl, c⟩
theorem u_l_frac {n m : Int} (h0 : 0 < m) (hn : Bi B n) (hm : Bi C m) (hb : B ≤ 8001) (hc : C ≤ 8001) (k : ∀ v H', Same H H' → Fr K H' v (Rat.divInt n m) → Q v H') : sp_l_frac K ([.int n, .int m] ++ []) H Q E := ⟨n, m, rfl, h0, hn.mono hb, hm.mono hc, k⟩
theorem u_l_add (hx : Fr K H x p) (hy : Fr K H y q) (hp : Bd B p) (hq : Bd C q) (hs : B + C ≤ 8000) (k : ∀ v H', Same H H' → Fr K H' v (p + q) → Q v H') : sp_l_add K ([x, y] ++ []) H Q E := ⟨x, y, p, q, B, C, rfl, hx, hy, hp, hq, hs, trivial, k⟩
theorem u_l_sub (hx : Fr K H x p) (hy : Fr K H y q) (hp : Bd B p) (hq : Bd C q) (hs : B + C ≤ 8000) (k : ∀ v H', Same H H' → Fr K H' v (p - q) → Q v H') : sp_l_sub K ([x, y] ++ []) H Q E := ⟨x, y, p, q, B, C, rfl, hx, hy, hp, hq, hs, trivial, k⟩
theorem u_l_mul (hx : Fr K H x p) (hy : Fr K H y q) (hp : Bd B p) (hq : Bd C q) (hs : B + C ≤ 8000) (k : ∀ v H', Same H H' → Fr K H' v (p * q) → Q v H') : sp_l_mul K ([x, y] ++ []) H Q E := ⟨x, y, p, q, B, C, rfl, hx, hy, hp, hq, hs, trivial, k⟩
theorem u_l_div (hx : Fr K H x p) (hy : Fr K H y q) (hp : Bd B p) (hq : Bd C q) (hs : B + C ≤ 8000) (h0 : 0 < q) (k : ∀ v H', Same H H' → Fr K H' v (p / q) → Q v H') : sp_l_div K ([x, y] ++ []) H Q E := ⟨x, y, p, q, B, C, rfl, hx, hy, hp, hq, hs, h0, k⟩
theorem u_l_minus (hx : Fr K H x p) (k : ∀ v H', Same H H' → Fr K H' v (-p) → Q v H') : sp_l_minus K ([x] ++ []) H Q E := ⟨x, p, rfl, hx, k⟩
theorem u_l_less (hx : Fr K H x p) (hy : Fr K H y q) (hp : Bd B p) (hq : Bd C q) (hs : B + C ≤ 8000) (k : Q (.bl (decide (p < q))) H) : sp_l_less K ([x, y] ++ []) H Q E := ⟨x, y, p, q, B, C, rfl, hx, hy, hp, hq, hs, k⟩
theorem u_l_spot (hx : Fr K H x p) (hy : Fr K H y q) (hp : Bd B p) (hq : Bd C q) (hs : B + C ≤ 300) (h0 : 0 < p) (c : ∀ v H' a b c, Same H H' → PlAt K H' v a b c → Q v H') : sp_l_spot K ([x, y] ++ []) H Q E := ⟨x, y, p, q, B, C, rfl, hx, hy, h0, hp, hq, hs, c⟩
theorem u_l_far {a b c : Int} (h : Tp K H x [.int a, .int b, .int c]) (h0 : 0 < c) (ha : Bi B a) (hc : Bi B c) (hB : B ≤ 8000) (k : ∀ u H', Same H H' → Fr K H' u (Rat.divInt a c) → Q u H') : sp_l_far K ([x] ++ []) H Q E := ⟨x, a, b, c, rfl, h, h0, ha.mono hB, hc.mono hB, k⟩
theorem u_l_high {a b c : Int} (h : Tp K H x [.int a, .int b, .int c]) (h0 : 0 < c) (ha : Bi B b) (hc : Bi B c) (hB : B ≤ 8000) (k : ∀ u H', Same H H' → Fr K H' u (Rat.divInt b c) → Q u H') : sp_l_high K ([x] ++ []) H Q E := ⟨x, a, b, c, rfl, h, h0, ha.mono hB, hc.mono hB, k⟩
theorem u_l_at {e : Rat} (hj : JetAt K H j s b) (hx : Fr K H x e) (bs : Bd 1000 s) (bb : Bd 1000 b) (be : Bd B e) (hB : B ≤ 1000) (c : ∀ u H', Same H H' → Fr K H' u (s * e - b * (e * e)) → Q u H') : sp_l_at K ([j, x] ++ []) H Q E := ⟨j, x, s, b, e, rfl, hj, hx, bs, bb, be.mono hB, c⟩
theorem u_l_rise {e : Rat} (hj : JetAt K H j s b) (hx : Fr K H x e) (bs : Bd 1000 s) (bb : Bd 1000 b) (be : Bd B e) (hB : B ≤ 1000) (c : ∀ u H', Same H H' → Fr K H' u (s - 2 * (b * e)) → Q u H') : sp_l_rise K ([j, x] ++ []) H Q E := ⟨j, x, s, b, e, rfl, hj, hx, bs, bb, be.mono hB, c⟩
theorem u_l_head (hj : JetAt K H j s b) (h0 : 0 < b) (bs : Bd 1000 s) (bb : Bd 1000 b) (c : ∀ u H', Same H H' → Fr K H' u (headOf s b) → Q u H') : sp_l_head K ([j] ++ []) H Q E := ⟨j, s, b, rfl, hj, h0, bs, bb, c⟩
theorem u_l_row (hk : AskAt K H v k) (o : k.ok 300) (c : ∀ u H', Same H H' → Bent K H' u k.row.1 k.row.2.1 k.row.2.2 → Q u H') : sp_l_row K ([v, d] ++ []) H Q E := ⟨v, d, k, rfl, hk, o, c⟩
theorem u_l_worth {r : Rat × Rat × Rat} (hv : Bent K H v r.1 r.2.1 r.2.2) (hj : JetAt K H j s b) (b1 : Bd 1000 r.1) (b2 : Bd 1000 r.2.1) (b3 : Bd 1000 r.2.2) (bs : Bd 1000 s) (bb : Bd 1000 b) (c : ∀ u H', Same H H' → Fr K H' u (worthOf r s b) → Q u H') : sp_l_worth K ([v, j] ++ []) H Q E :=
  ⟨v, j, r, s, b, rfl, hv, hj, b1, b2, b3, bs, bb, c⟩
theorem u_l_does (hj : JetAt K H j s b) (hk : AskAt K H v k) (bs : Bd 1000 s) (bb : Bd 1000 b) (o : k.ok 300) (c : ∀ H', Same H H' → Q (.bl (decide (k.done s b))) H') : sp_l_does K ([j, v] ++ []) H Q E := ⟨j, v, s, b, k, rfl, hj, hk, bs, bb, o, c⟩
end
local macro_rules | `(tactic| walk_at "bd") => `(tactic| first
  | with_reducible assumption
  | exact Bd.zero | exact Bd.one | exact Bd.two | exact Bd.four
  | ((with_reducible apply Bd.add) <;> walk_at "bd")
  | ((with_reducible apply Bd.sub) <;> walk_at "bd")
  | ((with_reducible apply Bd.mul) <;> walk_at "bd")
  | ((with_reducible apply Bd.div); (· walk_at "bd"); (· walk_at "bd"); (· walk_at "po"))
  | ((with_reducible apply Bd.neg) <;> walk_at "bd"))
local macro_rules | `(tactic| walk_at "bi") => `(tactic| first
  | with_reducible assumption
  | ((with_reducible apply Bd.bn) <;> walk_at "bd")
  | ((with_reducible apply Bd.bd) <;> walk_at "bd")
  | ((with_reducible apply Bi.mul) <;> walk_at "bi")
  | ((with_reducible apply Bi.add) <;> walk_at "bi")
  | ((with_reducible apply Bi.sub) <;> walk_at "bi")
  | ((with_reducible apply Bi.neg) <;> walk_at "bi"))
local macro_rules | `(tactic| walk_at "va") => `(tactic| first
  | with_reducible assumption
  | ((with_reducible apply VatAt.back); (· with_reducible assumption); walk_at "va"))
local macro_rules | `(tactic| walk_at "nx") => `(tactic| first
  | ((with_reducible apply Nx.of); with_reducible assumption)
  | ((with_reducible apply Nx.gov); (· with_reducible assumption); (· walk_at "va")))
local macro_rules | `(tactic| walk_at "fa") => `(tactic| first
  | with_reducible assumption
  | ((with_reducible apply tp_of); with_reducible assumption)
  | ((with_reducible apply Txt.t_ZERO); with_reducible assumption) | ((with_reducible apply Txt.t_ONE); with_reducible assumption) | ((with_reducible apply Txt.t_TWO); with_reducible assumption) | ((with_reducible apply Txt.t_FOUR); with_reducible assumption) | ((with_reducible apply Txt.t_UNIT); with_reducible assumption) | ((with_reducible apply Txt.t_PLACED); with_reducible assumption) | ((with_reducible apply Txt.t_STEEP); with_reducible assumption) | ((with_reducible apply Txt.t_BENT); with_reducible assumption) | ((with_reducible apply Txt.t_LEAST); with_reducible assumption)
  | ((with_reducible apply Fr.back); (· walk_at "nx"); walk_at "fa")
  | ((with_reducible apply Tp.back); (· walk_at "nx"); walk_at "fa")
  | ((with_reducible apply JetAt.back); (· walk_at "nx"); walk_at "fa")
  | ((with_reducible apply AskAt.back); (· walk_at "nx"); walk_at "fa"))
local macro_rules | `(tactic| walk_at "sm") => `(tactic| first
  | with_reducible assumption
  | with_reducible exact Same.refl _
  | (apply Same.back; (· with_reducible assumption); walk_at "sm"))
local macro_rules | `(tactic| walk_at "ls") => `(tactic| first
  | with_reducible assumption
  | ((with_reducible apply ls_back); (· with_reducible assumption); walk_at "ls"))
local macro_rules | `(tactic| walk_at "go") => `(tactic| first
  | with_reducible assumption
  | with_reducible exact Go.refl _
  | ((with_reducible apply Go.of); with_reducible assumption)
  | ((with_reducible apply Go.backS); (· with_reducible assumption); walk_at "go")
  | ((with_reducible apply Go.back); (· with_reducible assumption); walk_at "go"))
local macro_rules | `(tactic| walk_at "lg") => `(tactic| first
  | with_reducible assumption
  | ((with_reducible apply ls_back); (· with_reducible assumption); walk_at "lg")
  | ((with_reducible apply ls_go); (· with_reducible assumption); (· with_reducible assumption); walk_at "lg"))
local macro_rules | `(tactic| walk_at "sq") => `(tactic| first
  | with_reducible assumption
  | ((with_reducible apply SqL.of); walk_at "lg")
  | ((with_reducible apply sq_back); (· with_reducible assumption); walk_at "sq"))
local macro_rules | `(tactic| walk_at "fx") => `(tactic| first
  | walk_at "fa"
  | ((with_reducible apply Fr.tp); walk_at "fa"))
local macro_rules | `(tactic| walk_at "rd1") => `(tactic| first
  | with_reducible refine r_ret ?_ | with_reducible refine r_seq ?_ | with_reducible refine r_asg ?_ | with_reducible refine r_drop ?_ | with_reducible refine r_ifS ?_ | with_reducible refine r_par ?_ | with_reducible refine r_next ?_
  | with_reducible refine r_name ?_ | with_reducible refine r_gcons ?_ | with_reducible refine r_gnil ?_
  | ((with_reducible apply r_var); (· rfl))
  | with_reducible refine r_c ?_ | with_reducible refine r_op ?_ | with_reducible refine r_un ?_ | with_reducible refine r_call ?_ | with_reducible refine r_cb ?_ | with_reducible refine r_cons ?_ | with_reducible refine r_nil ?_
  | with_reducible refine r_tup ?_ | with_reducible refine r_lst ?_ | with_reducible refine r_if ?_ | with_reducible refine r_test ?_ | with_reducible refine r_B ?_ | with_reducible refine r_and ?_ | with_reducible refine r_or ?_ | with_reducible refine r_not ?_
  | with_reducible refine r_for ?_ | with_reducible refine r_iTup ?_ | with_reducible refine r_iList ?_ | with_reducible refine r_iEnumT ?_ | with_reducible refine r_iRng1 ?_ | with_reducible refine r_lcT ?_ | with_reducible refine r_lcL ?_ | with_reducible refine r_lcR ?_
  | with_reducible refine r_andV ?_ | with_reducible refine r_orV ?_ | with_reducible refine r_notV ?_ | with_reducible refine r_bl ?_
  | with_reducible refine r_I0 ?_ | with_reducible refine r_U ?_ | with_reducible refine r_par2 ?_
  | ((with_reducible refine r_eq ?_ ?_); (· rfl)) | ((with_reducible refine r_ne ?_ ?_); (· rfl))
  | ((with_reducible apply r_ixT); (· walk_at "fx"); (· first | rfl | exact atI_zero _ _))
  | ((with_reducible apply r_gtup); (· walk_at "fx"); (· rfl))
  | ((with_reducible apply r_mulW); (· walk_at "bi"); (· walk_at "bi"); (· first | omega | decide))
  | ((with_reducible apply r_isi_tt); (· walk_at "fx")) | with_reducible refine r_isi_ii ?_ | with_reducible refine r_isi_ib ?_ | with_reducible refine r_isi_ss ?_
  | with_reducible refine r_isNon ?_ | with_reducible refine r_isBl ?_
  | ((with_reducible apply r_lenT); (· walk_at "fx")) | with_reducible refine r_abs ?_ | with_reducible refine r_max ?_ | with_reducible refine r_min ?_ | with_reducible refine r_int ?_
  | ((with_reducible apply r_inT); (· walk_at "fx"); (· rfl); (· rfl)) | ((with_reducible apply r_niT); (· walk_at "fx"); (· rfl); (· rfl))
  | ((with_reducible apply r_inL); (· walk_at "ls"); (· rfl); (· rfl))
  | ((with_reducible apply r_tupOfL); (· walk_at "ls"); intro _ _ _ _ _)
  | ((with_reducible refine r_newT ?_ ?_); (· exact Nat.le_of_ble_eq_true rfl); intro _ _ _ _ _)
  | ((with_reducible refine r_newL ?_ ?_); (· exact Nat.le_of_ble_eq_true rfl); intro _ _ _ _ _)
  | ((with_reducible refine r_T ?_ ?_); (· first | rfl | with_reducible assumption))
  | ((with_reducible refine r_F ?_ ?_); (· first | rfl | with_reducible assumption)))
local macro_rules | `(tactic| walk_at "po") => `(tactic| first
  | with_reducible assumption
  | ((with_reducible apply Rat.mul_pos) <;> walk_at "po")
  | exact two_pos | exact four_pos)
local macro_rules | `(tactic| walk_at "sz") => `(tactic| first | omega | decide)
local macro_rules | `(tactic| walk_at "rd1") => `(tactic| first
  | ((with_reducible apply u_ratio_sum); (· walk_at "fa"); (· walk_at "fa"); (· walk_at "bd"); (· walk_at "bd"); (· walk_at "sz"); intro _ _ _ _)
  | ((with_reducible apply u_ratio_product); (· walk_at "fa"); (· walk_at "fa"); (· walk_at "bd"); (· walk_at "bd"); (· walk_at "sz"); intro _ _ _ _)
  | ((with_reducible apply u_ratio_over); (· walk_at "fa"); (· walk_at "fa"); (· walk_at "bd"); (· walk_at "bd"); (· walk_at "sz"); (· walk_at "po"); intro _ _ _ _)
  | ((with_reducible apply u_is_lower); (· walk_at "fa"); (· walk_at "fa"); (· walk_at "bd"); (· walk_at "bd"); (· walk_at "sz"))
  | ((with_reducible apply u_ratio_back); (· walk_at "fa"); intro _ _ _ _)
  | ((with_reducible apply u_is_ratio); (· walk_at "fa"); intro _ _))
local macro_rules | `(tactic| walk_at "rd1") => `(tactic| first
  | ((with_reducible apply u_l_add); (· walk_at "fa"); (· walk_at "fa"); (· walk_at "bd"); (· walk_at "bd"); (· walk_at "sz"); intro _ _ _ _)
  | ((with_reducible apply u_l_sub); (· walk_at "fa"); (· walk_at "fa"); (· walk_at "bd"); (· walk_at "bd"); (· walk_at "sz"); intro _ _ _ _)
  | ((with_reducible apply u_l_mul); (· walk_at "fa"); (· walk_at "fa"); (· walk_at "bd"); (· walk_at "bd"); (· walk_at "sz"); intro _ _ _ _)
  | ((with_reducible apply u_l_div); (· walk_at "fa"); (· walk_at "fa"); (· walk_at "bd"); (· walk_at "bd"); (· walk_at "sz"); (· walk_at "po"); intro _ _ _ _)
  | ((with_reducible apply u_l_less); (· walk_at "fa"); (· walk_at "fa"); (· walk_at "bd"); (· walk_at "bd"); (· walk_at "sz"))
  | ((with_reducible apply u_l_minus); (· walk_at "fa"); intro _ _ _ _))
local macro_rules | `(tactic| walk_at "rd1") => `(tactic| first
  | with_reducible refine r_sl ?_ | with_reducible refine r_part ?_ | with_reducible refine r_nopart ?_ | with_reducible refine r_some ?_ | with_reducible refine r_gsub ?_
  | ((with_reducible apply r_slL); (· walk_at "sq"); intro _ _ _ _ _)
  | ((with_reducible apply r_mulL); (· first | exact Or.inl (by decide) | exact Or.inr (by decide)))
  | ((with_reducible apply r_powL); (· exact ⟨by decide, by decide, by decide⟩))
  | ((with_reducible apply r_lenL); (· walk_at "sq"))
  | ((with_reducible apply r_ixL); (· walk_at "sq"); (· rfl))
  | ((with_reducible apply r_mod); (· first | with_reducible assumption | decide | omega))
  | ((with_reducible apply r_setL); (· walk_at "lg"); (· rfl); intro _ _ _)
  | ((with_reducible apply r_cat); (· walk_at "ls"); (· walk_at "ls"); (· first | omega | exact Nat.le_of_ble_eq_true rfl); intro _ _ _ _ _))
local macro_rules | `(tactic| walk_at "rd") => `(tactic| repeat walk_at "rd1")
local macro_rules | `(tactic| walk_at "st") => `(tactic| ((try simp only [cx_K]); walk_at "rd"))

section
variable {P : Program} {w : World} {K : PySem.W.Frag} {mg : Str → Option Value} {base : Heap} {z0 z1 z2 z4 zu zp zs zb zl : Addr}
theorem ok_l_gcd (D : Df K mg "_law_gcd" st_l_gcd) (T : Txt K mg z0 z1 z2 z4 zu zp zs zb zl) : Pr P w K mg base 1 "_law_gcd" ["_law_one", "_law_two"] (sp_l_gcd K) := by
  refine pr_of D sc_l_gcd ?_ (fun _ _ _ _ _ _ us hl => match us, hl with | [_, _], _ => rfl) (fun f cdv A outer s H vs Q E hr h => ?_)
  · rintro vs H Q E ⟨n, m, rfl, _⟩
    rfl
  · obtain ⟨n, m, rfl, c⟩ := h
    refine ⟨_, (pss_cons (ps_par (by rfl) sc_l_gcd.nd (i := 0) (j := 1) rfl rfl (by decide) rfl rfl (pa_cons (pe_callB cl_abs (by rfl) T.n_abs b_abs (pa_cons (pv 0) pa_nil)) (pa_cons (pe_callB cl_abs (by rfl) T.n_abs b_abs (pa_cons (pv 1) pa_nil)) pa_nil)) (by rfl)) (pss_cons (ps_while PassesOwn.never (pt_cmpR op_gt (pv 1) pe_int (nomark _)) (pss_one (ps_par (by rfl) sc_l_gcd.nd (i := 0) (j := 1) rfl rfl (by decide) rfl rfl (pa_cons (pv 1) (pa_cons (pe_op op_mod (pe_callTy cl_int (by rfl) T.n_int b_int (pa_cons (pv 0) pa_nil)) (pv 1)) pa_nil)) (by rfl)))) (pss_one (ps_ret (pv 0))))), ?_⟩
    walk_at "st"
    refine r_while (fun k σ' H' => H' = H ∧ ∃ a b : Nat, σ' = [some (.int a), some (.int b)] ∧ k = b ∧ Nat.gcd a b = Nat.gcd n.natAbs m.natAbs) m.natAbs ⟨rfl, _, _, rfl, rfl, rfl⟩ ?_
    rintro k σ' H' ⟨rfl, a, b, rfl, rfl, hg⟩
    walk_at "rd"
    refine r_ite (fun hb => ?_) (fun hb => ?_)
    · have b0 : (0 : Int) < (k : Int) := of_decide_eq_true hb
      refine ⟨_, fun _ _ z => z, ?_⟩
      walk_at "rd"
      refine ⟨a % k, Nat.mod_lt _ (by omega), rfl, k, a % k, rfl, rfl, ?_⟩
      rw [← hg, Nat.gcd_comm a k, Nat.gcd_rec k a, Nat.gcd_comm]
    · have b0 : ¬ (0 : Int) < (k : Int) := of_decide_eq_false hb
      obtain rfl : k = 0 := by omega
      walk_at "rd"
      rw [Nat.gcd_zero_right] at hg
      rw [hg]
      exact c
theorem ok_l_low (D : Df K mg "_law_low" st_l_low) (T : Txt K mg z0 z1 z2 z4 zu zp zs zb zl) (G_l_gcd : Pr P w K mg base 1 "_law_gcd" ["_law_one", "_law_two"] (sp_l_gcd K)) : Pr P w K mg base 2 "_law_low" ["_law_numbers"] (sp_l_low K) := by
  refine pr_of D sc_l_low ?_ (fun _ _ _ _ _ _ us hl => match us, hl with | [_], _ => rfl) (fun f cdv A outer s H vs Q E hr h => ?_)
  · rintro vs H Q E ⟨x, ns, rfl, _⟩
    rfl
  · obtain ⟨x, ns, rfl, hx, g0, g1, hl, c⟩ := h
    refine ⟨_, (pss_cons (ps_set (i := 1) sc_l_low.nd rfl (by first | exact Or.inl rfl | exact Or.inr rfl) pe_int) (pss_cons (ps_for PassesOwn.never rfl (pi_tup (pv 0)) (pg_name (i := 2) sc_l_low.nd rfl (by first | exact Or.inl rfl | exact Or.inr rfl)) (pss_one (ps_set (i := 1) sc_l_low.nd rfl (by first | exact Or.inl rfl | exact Or.inr rfl) (pe_c G_l_gcd (hr.mono (by decide)) (by rfl) (pa_cons (pv 1) (pa_cons (pv 2) pa_nil)))))) (pss_one (ps_ret (pe_callTy cl_tuple (by rfl) T.n_tuple b_tuple (pa_cons (pe_lc (own := [("_law_each", 2)]) (g := gName 2) rfl sc_l_low.nd (pi_tup (pv 0)) (blkOk_by (N := ["_law_numbers", "_law_common", "_law_each"]) (sc := defScope st_l_low) (by decide +kernel)) (fun _ _ _ _ _ => pg_name (i := 2) sc_l_low.nd rfl (by first | exact Or.inl rfl | exact Or.inr rfl)) (fun _ _ _ _ _ => pts_nil) (fun _ _ _ _ _ => (pe_op op_fdivW (pv 2) (pv 1)))) pa_nil)))))), ?_⟩
    walk_at "st"
    refine r_loopT hx (fun i σ' H' => H' = H ∧ ∃ u, σ' = [some x, some (.int (gl (ns.take i) : Nat)), u]) ⟨rfl, _, rfl⟩ ?_ ?_ ?_
    · rintro i σ' H' ⟨rfl, _⟩
      exact hx
    · rintro i y σ' H' hy ⟨rfl, u, rfl⟩
      obtain ⟨n, rfl, hn⟩ := map_at hy
      walk_at "rd"
      refine u_l_gcd ?_
      walk_at "rd"
      refine ⟨rfl, some (.int n), ?_⟩
      rw [take_snoc hn, gl_snoc, Int.natAbs_natCast]
      rfl
    · rintro σ' H' ⟨rfl, u, rfl⟩
      walk_at "rd"
      rw [List.length_map, List.take_length]
      refine r_compT hx (by rw [List.length_map]; omega) (fun i z _ => ∃ n, ns[i]? = some n ∧ z = .int (n / (gl ns : Nat))) (fun _ _ _ _ _ h => h) (fun _ => rfl) ?_ ?_
      · intro i y H1 Q' hy e q
        obtain ⟨n, rfl, hn⟩ := map_at hy
        walk_at "rd"
        refine r_divW (B := 8001) (by omega) (by unfold Bi; rw [Int.natAbs_natCast]; exact g1) (by decide) ?_
        exact q _ _ (Same.refl _) ⟨n, hn, rfl⟩
      · intro L H' ys hL e hL' hl' hr'
        have ey : ys = ns.map fun n => V.int (n / (gl ns : Nat)) := by
          rw [List.length_map] at hl'
          apply List.ext_getElem?
          intro i
          rw [List.getElem?_map]
          by_cases hi : i < ys.length
          · obtain ⟨n, h1, h2⟩ := hr' i _ (List.getElem?_eq_getElem hi)
            rw [h1, List.getElem?_eq_getElem hi, h2]
            rfl
          · rw [List.getElem?_eq_none (by omega), List.getElem?_eq_none (by omega)]
            rfl
        subst ey
        walk_at "rd"
        exact c _ _ (by walk_at "sm") (by walk_at "fa")
theorem ok_l_frac (D : Df K mg "_law_frac" st_l_frac) (G_l_low : Pr P w K mg base 2 "_law_low" ["_law_numbers"] (sp_l_low K)) : Pr P w K mg base 3 "_law_frac" ["_law_top", "_law_deep"] (sp_l_frac K) := by
  refine pr_of D sc_l_frac ?_ (fun _ _ _ _ _ _ us hl => match us, hl with | [_, _], _ => rfl) (fun f cdv A outer s H vs Q E hr h => ?_)
  · rintro vs H Q E ⟨n, m, rfl, _⟩
    rfl
  · obtain ⟨n, m, rfl, hm, hn, hb, c⟩ := h
    refine ⟨_, (pss_one (ps_ret (pe_c G_l_low (hr.mono (by decide)) (by rfl) (pa_cons (pe_ifExp (pt_cmpR op_gt (pv 1) pe_int (nomark _)) (pe_tup (pa_cons (pv 0) (pa_cons (pv 1) pa_nil))) (pe_tup (pa_cons (pe_op op_sub pe_int (pv 0)) (pa_cons (pe_op op_sub pe_int (pv 1)) pa_nil)))) pa_nil)))), ?_⟩
    walk_at "st"
    refine r_T (decide_eq_true hm) ?_
    walk_at "rd"
    rename_i a H1 n1 e1 h1
    have g0 := gcd_pos (n := n) hm
    have gb : Nat.gcd n.natAbs m.natAbs < 2 ^ 8001 := by
      have : Nat.gcd n.natAbs m.natAbs ≤ m.natAbs := Nat.le_of_dvd (by omega) (Nat.gcd_dvd_right _ _)
      unfold Bi at hb
      omega
    refine u_l_low (ns := [n, m]) (tp_of h1) (by rw [gl_two]; omega) (by rw [gl_two]; exact gb) (by show 2 ≤ 10; decide) fun v H2 e2 h2 => ?_
    refine c _ _ (e1.trans e2) ?_
    rw [gl_two] at h2
    have h3 : Tp K H2 v [.int (n / (Nat.gcd n.natAbs m.natAbs : Nat)), .int (m / (Nat.gcd n.natAbs m.natAbs : Nat))] := h2
    rw [red_num hm, red_den hm] at h3
    exact h3
theorem ok_l_add (D : Df K mg "_law_add" st_l_add) (G_l_frac : Pr P w K mg base 3 "_law_frac" ["_law_top", "_law_deep"] (sp_l_frac K)) : Pr P w K mg base 4 "_law_add" ["_law_one", "_law_two"] (sp_l_add K) := by
  refine pr_of D sc_l_add ?_ (fun _ _ _ _ _ _ us hl => match us, hl with | [_, _], _ => rfl) (fun f cdv A outer s H vs Q E hr h => ?_)
  · rintro vs H Q E ⟨x, y, p, q, B, C, rfl, _⟩
    rfl
  · obtain ⟨x, y, p, q, B, C, rfl, hx, hy, hp, hq, hs, -, k⟩ := h
    refine ⟨_, (pss_one (ps_ret (pe_c G_l_frac (hr.mono (by decide)) (by rfl) (pa_cons (pe_op op_add (pe_op op_mulW (pe_ix ix_tup (pv 0) pe_int (fun _ _ => rfl)) (pe_ix ix_tup (pv 1) pe_int (fun _ _ => rfl))) (pe_op op_mulW (pe_ix ix_tup (pv 1) pe_int (fun _ _ => rfl)) (pe_ix ix_tup (pv 0) pe_int (fun _ _ => rfl)))) (pa_cons (pe_op op_mulW (pe_ix ix_tup (pv 0) pe_int (fun _ _ => rfl)) (pe_ix ix_tup (pv 1) pe_int (fun _ _ => rfl))) pa_nil))))), ?_⟩
    walk_at "st"
    refine u_l_frac (den_mul_pos p q) (by walk_at "bi") (by walk_at "bi") (by omega) (by omega) fun v H' e h => ?_
    rw [add_eq] at h
    exact k v H' e h
theorem ok_l_sub (D : Df K mg "_law_sub" st_l_sub) (G_l_frac : Pr P w K mg base 3 "_law_frac" ["_law_top", "_law_deep"] (sp_l_frac K)) : Pr P w K mg base 4 "_law_sub" ["_law_one", "_law_two"] (sp_l_sub K) := by
  refine pr_of D sc_l_sub ?_ (fun _ _ _ _ _ _ us hl => match us, hl with | [_, _], _ => rfl) (fun f cdv A outer s H vs Q E hr h => ?_)
  · rintro vs H Q E ⟨x, y, p, q, B, C, rfl, _⟩
    rfl
  · obtain ⟨x, y, p, q, B, C, rfl, hx, hy, hp, hq, hs, -, k⟩ := h
    refine ⟨_, (pss_one (ps_ret (pe_c G_l_frac (hr.mono (by decide)) (by rfl) (pa_cons (pe_op op_sub (pe_op op_mulW (pe_ix ix_tup (pv 0) pe_int (fun _ _ => rfl)) (pe_ix ix_tup (pv 1) pe_int (fun _ _ => rfl))) (pe_op op_mulW (pe_ix ix_tup (pv 1) pe_int (fun _ _ => rfl)) (pe_ix ix_tup (pv 0) pe_int (fun _ _ => rfl)))) (pa_cons (pe_op op_mulW (pe_ix ix_tup (pv 0) pe_int (fun _ _ => rfl)) (pe_ix ix_tup (pv 1) pe_int (fun _ _ => rfl))) pa_nil))))), ?_⟩
    walk_at "st"
    refine u_l_frac (den_mul_pos p q) (by walk_at "bi") (by walk_at "bi") (by omega) (by omega) fun v H' e h => ?_
    rw [sub_eq] at h
    exact k v H' e h
theorem ok_l_mul (D : Df K mg "_law_mul" st_l_mul) (G_l_frac : Pr P w K mg base 3 "_law_frac" ["_law_top", "_law_deep"] (sp_l_frac K)) : Pr P w K mg base 4 "_law_mul" ["_law_one", "_law_two"] (sp_l_mul K) := by
  refine pr_of D sc_l_mul ?_ (fun _ _ _ _ _ _ us hl => match us, hl with | [_, _], _ => rfl) (fun f cdv A outer s H vs Q E hr h => ?_)
  · rintro vs H Q E ⟨x, y, p, q, B, C, rfl, _⟩
    rfl
  · obtain ⟨x, y, p, q, B, C, rfl, hx, hy, hp, hq, hs, -, k⟩ := h
    refine ⟨_, (pss_one (ps_ret (pe_c G_l_frac (hr.mono (by decide)) (by rfl) (pa_cons (pe_op op_mulW (pe_ix ix_tup (pv 0) pe_int (fun _ _ => rfl)) (pe_ix ix_tup (pv 1) pe_int (fun _ _ => rfl))) (pa_cons (pe_op op_mulW (pe_ix ix_tup (pv 0) pe_int (fun _ _ => rfl)) (pe_ix ix_tup (pv 1) pe_int (fun _ _ => rfl))) pa_nil))))), ?_⟩
    walk_at "st"
    refine u_l_frac (den_mul_pos p q) (by walk_at "bi") (by walk_at "bi") (by omega) (by omega) fun v H' e h => ?_
    rw [mul_eq] at h
    exact k v H' e h
theorem ok_l_div (D : Df K mg "_law_div" st_l_div) (G_l_frac : Pr P w K mg base 3 "_law_frac" ["_law_top", "_law_deep"] (sp_l_frac K)) : Pr P w K mg base 4 "_law_div" ["_law_one", "_law_two"] (sp_l_div K) := by
  refine pr_of D sc_l_div ?_ (fun _ _ _ _ _ _ us hl => match us, hl with | [_, _], _ => rfl) (fun f cdv A outer s H vs Q E hr h => ?_)
  · rintro vs H Q E ⟨x, y, p, q, B, C, rfl, _⟩
    rfl
  · obtain ⟨x, y, p, q, B, C, rfl, hx, hy, hp, hq, hs, h0, k⟩ := h
    refine ⟨_, (pss_one (ps_ret (pe_c G_l_frac (hr.mono (by decide)) (by rfl) (pa_cons (pe_op op_mulW (pe_ix ix_tup (pv 0) pe_int (fun _ _ => rfl)) (pe_ix ix_tup (pv 1) pe_int (fun _ _ => rfl))) (pa_cons (pe_op op_mulW (pe_ix ix_tup (pv 0) pe_int (fun _ _ => rfl)) (pe_ix ix_tup (pv 1) pe_int (fun _ _ => rfl))) pa_nil))))), ?_⟩
    walk_at "st"
    refine u_l_frac (div_den_pos h0) (by walk_at "bi") (by walk_at "bi") (by omega) (by omega) fun v H' e h => ?_
    rw [div_eq] at h
    exact k v H' e h
theorem ok_l_minus (D : Df K mg "_law_minus" st_l_minus) : Pr P w K mg base 1 "_law_minus" ["_law_one"] (sp_l_minus K) := by
  refine pr_of D sc_l_minus ?_ (fun _ _ _ _ _ _ us hl => match us, hl with | [_], _ => rfl) (fun f cdv A outer s H vs Q E hr h => ?_)
  · rintro vs H Q E ⟨x, p, rfl, _⟩
    rfl
  · obtain ⟨x, p, rfl, hx, k⟩ := h
    refine ⟨_, (pss_one (ps_ret (pe_tup (pa_cons (pe_op op_sub pe_int (pe_ix ix_tup (pv 0) pe_int (fun _ _ => rfl))) (pa_cons (pe_ix ix_tup (pv 0) pe_int (fun _ _ => rfl)) pa_nil))))), ?_⟩
    walk_at "st"
    rename_i a H' n e h
    rw [Int.zero_sub] at h
    exact k _ _ e (tp_of h)
theorem ok_l_less (D : Df K mg "_law_less" st_l_less) : Pr P w K mg base 1 "_law_less" ["_law_one", "_law_two"] (sp_l_less K) := by
  refine pr_of D sc_l_less ?_ (fun _ _ _ _ _ _ us hl => match us, hl with | [_, _], _ => rfl) (fun f cdv A outer s H vs Q E hr h => ?_)
  · rintro vs H Q E ⟨x, y, p, q, B, C, rfl, _⟩
    rfl
  · obtain ⟨x, y, p, q, B, C, rfl, hx, hy, hp, hq, hs, k⟩ := h
    refine ⟨_, (pss_one (ps_ret (pe_cmpR op_lt (pe_op op_mulW (pe_ix ix_tup (pv 0) pe_int (fun _ _ => rfl)) (pe_ix ix_tup (pv 1) pe_int (fun _ _ => rfl))) (pe_op op_mulW (pe_ix ix_tup (pv 1) pe_int (fun _ _ => rfl)) (pe_ix ix_tup (pv 0) pe_int (fun _ _ => rfl))) (nomark _)))), ?_⟩
    walk_at "st"
    rw [show decide (p.num * (q.den : Int) < q.num * (p.den : Int)) = decide (p < q) from decide_eq_decide.mpr (Rat.lt_iff p q).symm]
    exact k
theorem pl_red {x y w : Int} (hx : 0 < x) (hw : 0 < w) {g : Nat} (hg : gl [x, y, w] = g) : Pl (x / (g : Int)) (y / (g : Int)) (w / (g : Int)) := by
  rw [gl_three] at hg
  have d1 : g ∣ Nat.gcd x.natAbs y.natAbs := hg ▸ Nat.gcd_dvd_left _ _
  have dx : g ∣ x.natAbs := Nat.dvd_trans d1 (Nat.gcd_dvd_left _ _)
  have dy : g ∣ y.natAbs := Nat.dvd_trans d1 (Nat.gcd_dvd_right _ _)
  have dw : g ∣ w.natAbs := hg ▸ Nat.gcd_dvd_right _ _
  have g0 : 0 < g := Nat.pos_of_dvd_of_pos dw (by omega)
  have ix : (g : Int) ∣ x := Int.ofNat_dvd_left.mpr dx
  have iy : (g : Int) ∣ y := Int.ofNat_dvd_left.mpr dy
  have iw : (g : Int) ∣ w := Int.ofNat_dvd_left.mpr dw
  refine ⟨Int.ediv_pos_of_pos_of_dvd hx (by omega) ix, Int.ediv_pos_of_pos_of_dvd hw (by omega) iw, ?_⟩
  rw [Int.natAbs_ediv_of_dvd ix, Int.natAbs_ediv_of_dvd iy, Int.natAbs_ediv_of_dvd iw, Int.natAbs_natCast, Nat.gcd_div dx dy, Nat.gcd_div d1 dw, hg, Nat.div_self g0]
theorem bi_div {B : Nat} {x : Int} (h : Bi B x) (g : Int) : Bi B (x / g) := Nat.lt_of_le_of_lt (Int.natAbs_ediv_le_natAbs _ _) h
theorem ok_l_spot (D : Df K mg "_law_spot" st_l_spot) (G_l_low : Pr P w K mg base 2 "_law_low" ["_law_numbers"] (sp_l_low K)) : Pr P w K mg base 3 "_law_spot" ["_law_x", "_law_y"] (sp_l_spot K) := by
  refine pr_of D sc_l_spot ?_ (fun _ _ _ _ _ _ us hl => match us, hl with | [_, _], _ => rfl) (fun f cdv A outer s H vs Q E hr h => ?_)
  · rintro vs H Q E ⟨x, y, p, q, B, C, rfl, _⟩
    rfl
  · obtain ⟨x, y, p, q, B, C, rfl, hx, hy, h0, hp, hq, hs, c⟩ := h
    refine ⟨_, (pss_one (ps_ret (pe_c G_l_low (hr.mono (by decide)) (by rfl) (pa_cons (pe_tup (pa_cons (pe_op op_mulW (pe_ix ix_tup (pv 0) pe_int (fun _ _ => rfl)) (pe_ix ix_tup (pv 1) pe_int (fun _ _ => rfl))) (pa_cons (pe_op op_mulW (pe_ix ix_tup (pv 1) pe_int (fun _ _ => rfl)) (pe_ix ix_tup (pv 0) pe_int (fun _ _ => rfl))) (pa_cons (pe_op op_mulW (pe_ix ix_tup (pv 0) pe_int (fun _ _ => rfl)) (pe_ix ix_tup (pv 1) pe_int (fun _ _ => rfl))) pa_nil)))) pa_nil)))), ?_⟩
    walk_at "st"
    rename_i a H1 n1 e1 h1
    have x0 : 0 < p.num * (q.den : Int) := Int.mul_pos (num_pos.mpr h0) (den_pos q)
    have w0 := den_mul_pos p q
    have bx : Bi 300 (p.num * (q.den : Int)) := Bi.mono (by walk_at "bi") hs
    have bw : Bi 300 ((p.den : Int) * (q.den : Int)) := Bi.mono (by walk_at "bi") hs
    have by' : Bi 300 (q.num * (p.den : Int)) := Bi.mono (Bi.mul hq.bn hp.bd) (by omega)
    have gp : gl [p.num * (q.den : Int), q.num * (p.den : Int), (p.den : Int) * (q.den : Int)] ∣ ((p.den : Int) * (q.den : Int)).natAbs := by
      rw [gl_three]
      exact Nat.gcd_dvd_right _ _
    have gl0 : 0 < gl [p.num * (q.den : Int), q.num * (p.den : Int), (p.den : Int) * (q.den : Int)] := Nat.pos_of_dvd_of_pos gp (by omega)
    have gl1 : gl [p.num * (q.den : Int), q.num * (p.den : Int), (p.den : Int) * (q.den : Int)] < 2 ^ 8001 :=
      Nat.lt_of_le_of_lt (Nat.le_of_dvd (by omega) gp) (bw.mono (by decide))
    refine u_l_low (ns := [p.num * (q.den : Int), q.num * (p.den : Int), (p.den : Int) * (q.den : Int)]) (tp_of h1) gl0 gl1 (by show 3 ≤ 10; decide) fun v H2 e2 h2 => ?_
    exact c _ _ _ _ _ (e1.trans e2) ⟨h2, pl_red x0 w0 rfl, bi_div bx _, bi_div by' _, bi_div bw _⟩
theorem ok_l_far (D : Df K mg "_law_far" st_l_far) (G_l_frac : Pr P w K mg base 3 "_law_frac" ["_law_top", "_law_deep"] (sp_l_frac K)) : Pr P w K mg base 4 "_law_far" ["_law_place_here"] (sp_l_far K) := by
  refine pr_of D sc_l_far ?_ (fun _ _ _ _ _ _ us hl => match us, hl with | [_], _ => rfl) (fun f cdv A outer s H vs Q E hr h => ?_)
  · rintro vs H Q E ⟨v, x, y, w, rfl, _⟩
    rfl
  · obtain ⟨v, x, y, w', rfl, hv, h0, bx, bw, k⟩ := h
    refine ⟨_, (pss_one (ps_ret (pe_c G_l_frac (hr.mono (by decide)) (by rfl) (pa_cons (pe_ix ix_tup (pv 0) pe_int (fun _ _ => rfl)) (pa_cons (pe_ix ix_tup (pv 0) pe_int (fun _ _ => rfl)) pa_nil))))), ?_⟩
    walk_at "st"
    exact u_l_frac h0 bx bw (by decide) (by decide) k
theorem ok_l_high (D : Df K mg "_law_high" st_l_high) (G_l_frac : Pr P w K mg base 3 "_law_frac" ["_law_top", "_law_deep"] (sp_l_frac K)) : Pr P w K mg base 4 "_law_high" ["_law_place_here"] (sp_l_high K) := by
  refine pr_of D sc_l_high ?_ (fun _ _ _ _ _ _ us hl => match us, hl with | [_], _ => rfl) (fun f cdv A outer s H vs Q E hr h => ?_)
  · rintro vs H Q E ⟨v, x, y, w, rfl, _⟩
    rfl
  · obtain ⟨v, x, y, w', rfl, hv, h0, bx, bw, k⟩ := h
    refine ⟨_, (pss_one (ps_ret (pe_c G_l_frac (hr.mono (by decide)) (by rfl) (pa_cons (pe_ix ix_tup (pv 0) pe_int (fun _ _ => rfl)) (pa_cons (pe_ix ix_tup (pv 0) pe_int (fun _ _ => rfl)) pa_nil))))), ?_⟩
    walk_at "st"
    exact u_l_frac h0 bx bw (by decide) (by decide) k
end
end K17
/-! The law's own jets, rows, worths. -/
namespace K17
set_option linter.all false
set_option maxRecDepth 100000
set_option maxHeartbeats 4000000
open PySem PySem.Spec PyProof.Rows L2
local macro_rules | `(tactic| walk_at "bd") => `(tactic| first
  | with_reducible assumption
  | exact Bd.zero | exact Bd.one | exact Bd.two | exact Bd.four
  | ((with_reducible apply Bd.add) <;> walk_at "bd")
  | ((with_reducible apply Bd.sub) <;> walk_at "bd")
  | ((with_reducible apply Bd.mul) <;> walk_at "bd")
  | ((with_reducible apply Bd.div); (· walk_at "bd"); (· walk_at "bd"); (· walk_at "po"))
  | ((with_reducible apply Bd.neg) <;> walk_at "bd"))
local macro_rules | `(tactic| walk_at "bi") => `(tactic| first
  | with_reducible assumption
  | ((with_reducible apply Bd.bn) <;> walk_at "bd")
  | ((with_reducible apply Bd.bd) <;> walk_at "bd")
  | ((with_reducible apply Bi.mul) <;> walk_at "bi")
  | ((with_reducible apply Bi.add) <;> walk_at "bi")
  | ((with_reducible apply Bi.sub) <;> walk_at "bi")
  | ((with_reducible apply Bi.neg) <;> walk_at "bi"))
local macro_rules | `(tactic| walk_at "va") => `(tactic| first
  | with_reducible assumption
  | ((with_reducible apply VatAt.back); (· with_reducible assumption); walk_at "va"))
local macro_rules | `(tactic| walk_at "nx") => `(tactic| first
  | ((with_reducible apply Nx.of); with_reducible assumption)
  | ((with_reducible apply Nx.gov); (· with_reducible assumption); (· walk_at "va")))
local macro_rules | `(tactic| walk_at "fa") => `(tactic| first
  | with_reducible assumption
  | ((with_reducible apply tp_of); with_reducible assumption)
  | ((with_reducible apply Txt.t_ZERO); with_reducible assumption) | ((with_reducible apply Txt.t_ONE); with_reducible assumption) | ((with_reducible apply Txt.t_TWO); with_reducible assumption) | ((with_reducible apply Txt.t_FOUR); with_reducible assumption) | ((with_reducible apply Txt.t_UNIT); with_reducible assumption) | ((with_reducible apply Txt.t_PLACED); with_reducible assumption) | ((with_reducible apply Txt.t_STEEP); with_reducible assumption) | ((with_reducible apply Txt.t_BENT); with_reducible assumption) | ((with_reducible apply Txt.t_LEAST); with_reducible assumption)
  | ((with_reducible apply Fr.back); (· walk_at "nx"); walk_at "fa")
  | ((with_reducible apply Tp.back); (· walk_at "nx"); walk_at "fa")
  | ((with_reducible apply JetAt.back); (· walk_at "nx"); walk_at "fa")
  | ((with_reducible apply AskAt.back); (· walk_at "nx"); walk_at "fa"))
local macro_rules | `(tactic| walk_at "sm") => `(tactic| first
  | with_reducible assumption
  | with_reducible exact Same.refl _
  | (apply Same.back; (· with_reducible assumption); walk_at "sm"))
local macro_rules | `(tactic| walk_at "ls") => `(tactic| first
  | with_reducible assumption
  | ((with_reducible apply ls_back); (· with_reducible assumption); walk_at "ls"))
local macro_rules | `(tactic| walk_at "go") => `(tactic| first
  | with_reducible assumption
  | with_reducible exact Go.refl _
  | ((with_reducible apply Go.of); with_reducible assumption)
  | ((with_reducible apply Go.backS); (· with_reducible assumption); walk_at "go")
  | ((with_reducible apply Go.back); (· with_reducible assumption); walk_at "go"))
local macro_rules | `(tactic| walk_at "lg") => `(tactic| first
  | with_reducible assumption
  | ((with_reducible apply ls_back); (· with_reducible assumption); walk_at "lg")
  | ((with_reducible apply ls_go); (· with_reducible assumption); (· with_reducible assumption); walk_at "lg"))
local macro_rules | `(tactic| walk_at "sq") => `(tactic| first
  | with_reducible assumption
  | ((with_reducible apply SqL.of); walk_at "lg")
  | ((with_reducible apply sq_back); (· with_reducible assumption); walk_at "sq"))
local macro_rules | `(tactic| walk_at "fx") => `(tactic| first
  | walk_at "fa"
  | ((with_reducible apply Fr.tp); walk_at "fa"))
local macro_rules | `(tactic| walk_at "rd1") => `(tactic| first
  | with_reducible refine r_ret ?_ | with_reducible refine r_seq ?_ | with_reducible refine r_asg ?_ | with_reducible refine r_drop ?_ | with_reducible refine r_ifS ?_ | with_reducible refine r_par ?_ | with_reducible refine r_next ?_
  | with_reducible refine r_name ?_ | with_reducible refine r_gcons ?_ | with_reducible refine r_gnil ?_
  | ((with_reducible apply r_var); (· rfl))
  | with_reducible refine r_c ?_ | with_reducible refine r_op ?_ | with_reducible refine r_un ?_ | with_reducible refine r_call ?_ | with_reducible refine r_cb ?_ | with_reducible refine r_cons ?_ | with_reducible refine r_nil ?_
  | with_reducible refine r_tup ?_ | with_reducible refine r_lst ?_ | with_reducible refine r_if ?_ | with_reducible refine r_test ?_ | with_reducible refine r_B ?_ | with_reducible refine r_and ?_ | with_reducible refine r_or ?_ | with_reducible refine r_not ?_
  | with_reducible refine r_for ?_ | with_reducible refine r_iTup ?_ | with_reducible refine r_iList ?_ | with_reducible refine r_iEnumT ?_ | with_reducible refine r_iRng1 ?_ | with_reducible refine r_lcT ?_ | with_reducible refine r_lcL ?_ | with_reducible refine r_lcR ?_
  | with_reducible refine r_andV ?_ | with_reducible refine r_orV ?_ | with_reducible refine r_notV ?_ | with_reducible refine r_bl ?_
  | with_reducible refine r_I0 ?_ | with_reducible refine r_U ?_ | with_reducible refine r_par2 ?_
  | ((with_reducible refine r_eq ?_ ?_); (· rfl)) | ((with_reducible refine r_ne ?_ ?_); (· rfl))
  | ((with_reducible apply r_ixT); (· walk_at "fx"); (· first | rfl | exact atI_zero _ _))
  | ((with_reducible apply r_gtup); (· walk_at "fx"); (· rfl))
  | ((with_reducible apply r_mulW); (· walk_at "bi"); (· walk_at "bi"); (· first | omega | decide))
  | ((with_reducible apply r_isi_tt); (· walk_at "fx")) | with_reducible refine r_isi_ii ?_ | with_reducible refine r_isi_ib ?_ | with_reducible refine r_isi_ss ?_
  | with_reducible refine r_isNon ?_ | with_reducible refine r_isBl ?_
  | ((with_reducible apply r_lenT); (· walk_at "fx")) | with_reducible refine r_abs ?_ | with_reducible refine r_max ?_ | with_reducible refine r_min ?_ | with_reducible refine r_int ?_
  | ((with_reducible apply r_inT); (· walk_at "fx"); (· rfl); (· rfl)) | ((with_reducible apply r_niT); (· walk_at "fx"); (· rfl); (· rfl))
  | ((with_reducible apply r_inL); (· walk_at "ls"); (· rfl); (· rfl))
  | ((with_reducible apply r_tupOfL); (· walk_at "ls"); intro _ _ _ _ _)
  | ((with_reducible refine r_newT ?_ ?_); (· exact Nat.le_of_ble_eq_true rfl); intro _ _ _ _ _)
  | ((with_reducible refine r_newL ?_ ?_); (· exact Nat.le_of_ble_eq_true rfl); intro _ _ _ _ _)
  | ((with_reducible refine r_T ?_ ?_); (· first | rfl | with_reducible assumption))
  | ((with_reducible refine r_F ?_ ?_); (· first | rfl | with_reducible assumption)))
local macro_rules | `(tactic| walk_at "po") => `(tactic| first
  | with_reducible assumption
  | ((with_reducible apply Rat.mul_pos) <;> walk_at "po")
  | exact two_pos | exact four_pos)
local macro_rules | `(tactic| walk_at "sz") => `(tactic| first | omega | decide)
local macro_rules | `(tactic| walk_at "rd1") => `(tactic| first
  | ((with_reducible apply u_ratio_sum); (· walk_at "fa"); (· walk_at "fa"); (· walk_at "bd"); (· walk_at "bd"); (· walk_at "sz"); intro _ _ _ _)
  | ((with_reducible apply u_ratio_product); (· walk_at "fa"); (· walk_at "fa"); (· walk_at "bd"); (· walk_at "bd"); (· walk_at "sz"); intro _ _ _ _)
  | ((with_reducible apply u_ratio_over); (· walk_at "fa"); (· walk_at "fa"); (· walk_at "bd"); (· walk_at "bd"); (· walk_at "sz"); (· walk_at "po"); intro _ _ _ _)
  | ((with_reducible apply u_is_lower); (· walk_at "fa"); (· walk_at "fa"); (· walk_at "bd"); (· walk_at "bd"); (· walk_at "sz"))
  | ((with_reducible apply u_ratio_back); (· walk_at "fa"); intro _ _ _ _)
  | ((with_reducible apply u_is_ratio); (· walk_at "fa"); intro _ _))
local macro_rules | `(tactic| walk_at "rd1") => `(tactic| first
  | ((with_reducible apply u_l_add); (· walk_at "fa"); (· walk_at "fa"); (· walk_at "bd"); (· walk_at "bd"); (· walk_at "sz"); intro _ _ _ _)
  | ((with_reducible apply u_l_sub); (· walk_at "fa"); (· walk_at "fa"); (· walk_at "bd"); (· walk_at "bd"); (· walk_at "sz"); intro _ _ _ _)
  | ((with_reducible apply u_l_mul); (· walk_at "fa"); (· walk_at "fa"); (· walk_at "bd"); (· walk_at "bd"); (· walk_at "sz"); intro _ _ _ _)
  | ((with_reducible apply u_l_div); (· walk_at "fa"); (· walk_at "fa"); (· walk_at "bd"); (· walk_at "bd"); (· walk_at "sz"); (· walk_at "po"); intro _ _ _ _)
  | ((with_reducible apply u_l_less); (· walk_at "fa"); (· walk_at "fa"); (· walk_at "bd"); (· walk_at "bd"); (· walk_at "sz"))
  | ((with_reducible apply u_l_minus); (· walk_at "fa"); intro _ _ _ _))
local macro_rules | `(tactic| walk_at "rd1") => `(tactic| first
  | with_reducible refine r_sl ?_ | with_reducible refine r_part ?_ | with_reducible refine r_nopart ?_ | with_reducible refine r_some ?_ | with_reducible refine r_gsub ?_
  | ((with_reducible apply r_slL); (· walk_at "sq"); intro _ _ _ _ _)
  | ((with_reducible apply r_mulL); (· first | exact Or.inl (by decide) | exact Or.inr (by decide)))
  | ((with_reducible apply r_powL); (· exact ⟨by decide, by decide, by decide⟩))
  | ((with_reducible apply r_lenL); (· walk_at "sq"))
  | ((with_reducible apply r_ixL); (· walk_at "sq"); (· rfl))
  | ((with_reducible apply r_mod); (· first | with_reducible assumption | decide | omega))
  | ((with_reducible apply r_setL); (· walk_at "lg"); (· rfl); intro _ _ _)
  | ((with_reducible apply r_cat); (· walk_at "ls"); (· walk_at "ls"); (· first | omega | exact Nat.le_of_ble_eq_true rfl); intro _ _ _ _ _))
local macro_rules | `(tactic| walk_at "rd") => `(tactic| repeat walk_at "rd1")
local macro_rules | `(tactic| walk_at "st") => `(tactic| ((try simp only [cx_K]); walk_at "rd"))

section
variable {P : Program} {w : World} {K : PySem.W.Frag} {mg : Str → Option Value} {base : Heap} {z0 z1 z2 z4 zu zp zs zb zl : Addr}
/-- a pair of whole numbers that is a fraction -/
theorem fr_lit {H : Hp} {p : Addr} {a b : Int} {q : Rat} (h : H p = some (.tup [.int a, .int b])) (e1 : q.num = a) (e2 : (q.den : Int) = b) : Fr K H (.ref p) q := by
  subst e1 e2
  exact tp_of h
theorem row_bd {k : Ask} (hk : k.ok 300) : Bd 1000 k.row.1 ∧ Bd 1000 k.row.2.1 ∧ Bd 1000 k.row.2.2 := by
  have one : Bd 1000 1 := Bd.one.mono (by decide)
  have zero : Bd 1000 0 := Bd.zero.mono (by decide)
  cases k with
  | over x y w =>
    have bx := Bd.of hk.1.2.1 hk.2.1 hk.2.2.2
    have yb := Bd.of hk.1.2.1 hk.2.2.1 hk.2.2.2
    exact ⟨bx.mono (by decide), (Bd.neg (Bd.mul bx bx)).mono (by decide), (Bd.neg yb).mono (by decide)⟩
  | under x y w =>
    have bx := Bd.of hk.1.2.1 hk.2.1 hk.2.2.2
    have yb := Bd.of hk.1.2.1 hk.2.2.1 hk.2.2.2
    exact ⟨(Bd.neg bx).mono (by decide), (Bd.mul bx bx).mono (by decide), yb.mono (by decide)⟩
  | dives x m => exact ⟨Bd.neg one, (Bd.mul Bd.two hk.2.1).mono (by decide), hk.2.2.mono (by decide)⟩
  | climbs x m => exact ⟨one, (Bd.neg (Bd.mul Bd.two hk.2.1)).mono (by decide), (Bd.neg hk.2.2).mono (by decide)⟩
  | quick b => exact ⟨zero, Bd.neg one, hk.2.mono (by decide)⟩
  | slow b => exact ⟨zero, one, (Bd.neg hk.2).mono (by decide)⟩
theorem worth_bd {r : Rat × Rat × Rat} {s b : Rat} (b1 : Bd 1000 r.1) (b2 : Bd 1000 r.2.1) (b3 : Bd 1000 r.2.2) (bs : Bd 1000 s) (bb : Bd 1000 b) : Bd 6000 (worthOf r s b) :=
  (Bd.add (Bd.add (Bd.mul b1 bs) (Bd.mul b2 bb)) b3).mono (by decide)
theorem ok_l_at (D : Df K mg "_law_at" st_l_at) (G_l_sub : Pr P w K mg base 4 "_law_sub" ["_law_one", "_law_two"] (sp_l_sub K)) (G_l_mul : Pr P w K mg base 4 "_law_mul" ["_law_one", "_law_two"] (sp_l_mul K)) : Pr P w K mg base 5 "_law_at" ["_law_jet_here", "_law_distance"] (sp_l_at K) := by
  refine pr_of D sc_l_at ?_ (fun _ _ _ _ _ _ us hl => match us, hl with | [_, _], _ => rfl) (fun f cdv A outer s H vs Q E hr h => ?_)
  · rintro vs H Q E ⟨j, x, s, b, d, rfl, _⟩
    rfl
  · obtain ⟨j, x, s, b, d, rfl, ⟨s', b', hj, hs, hb⟩, hx, bs, bb, bd, c⟩ := h
    refine ⟨_, (pss_cons (ps_asg (pv 0) (pg_tup (by rfl) (pgs_cons (pg_name (i := 2) sc_l_at.nd rfl (by first | exact Or.inl rfl | exact Or.inr rfl)) (pgs_cons (pg_name (i := 3) sc_l_at.nd rfl (by first | exact Or.inl rfl | exact Or.inr rfl)) pgs_nil)))) (pss_one (ps_ret (pe_c G_l_sub (hr.mono (by decide)) (by rfl) (pa_cons (pe_c G_l_mul (hr.mono (by decide)) (by rfl) (pa_cons (pv 2) (pa_cons (pv 1) pa_nil))) (pa_cons (pe_c G_l_mul (hr.mono (by decide)) (by rfl) (pa_cons (pv 3) (pa_cons (pe_c G_l_mul (hr.mono (by decide)) (by rfl) (pa_cons (pv 1) (pa_cons (pv 1) pa_nil))) pa_nil))) pa_nil)))))), ?_⟩
    walk_at "st"
    exact c _ _ (by walk_at "sm") (by walk_at "fa")
theorem ok_l_rise (D : Df K mg "_law_rise" st_l_rise) (G_l_sub : Pr P w K mg base 4 "_law_sub" ["_law_one", "_law_two"] (sp_l_sub K)) (G_l_mul : Pr P w K mg base 4 "_law_mul" ["_law_one", "_law_two"] (sp_l_mul K)) : Pr P w K mg base 5 "_law_rise" ["_law_jet_here", "_law_distance"] (sp_l_rise K) := by
  refine pr_of D sc_l_rise ?_ (fun _ _ _ _ _ _ us hl => match us, hl with | [_, _], _ => rfl) (fun f cdv A outer s H vs Q E hr h => ?_)
  · rintro vs H Q E ⟨j, x, s, b, d, rfl, _⟩
    rfl
  · obtain ⟨j, x, s, b, d, rfl, ⟨s', b', hj, hs, hb⟩, hx, bs, bb, bd, c⟩ := h
    refine ⟨_, (pss_one (ps_ret (pe_c G_l_sub (hr.mono (by decide)) (by rfl) (pa_cons (pe_ix ix_tup (pv 0) pe_int (fun _ _ => rfl)) (pa_cons (pe_c G_l_mul (hr.mono (by decide)) (by rfl) (pa_cons (pe_tup (pa_cons pe_int (pa_cons pe_int pa_nil))) (pa_cons (pe_c G_l_mul (hr.mono (by decide)) (by rfl) (pa_cons (pe_ix ix_tup (pv 0) pe_int (fun _ _ => rfl)) (pa_cons (pv 1) pa_nil))) pa_nil))) pa_nil))))), ?_⟩
    walk_at "st"
    rename_i p1 H1 n1 e1 h1 v2 H2 e2 h2
    refine u_l_mul (p := 2) (fr_lit (e2 _ _ h1) rfl rfl) (by walk_at "fa") Bd.two (by walk_at "bd") (by decide) fun v3 H3 e3 h3 => ?_
    walk_at "rd"
    exact c _ _ (by walk_at "sm") (by walk_at "fa")
theorem ok_l_head (D : Df K mg "_law_head" st_l_head) (G_l_div : Pr P w K mg base 4 "_law_div" ["_law_one", "_law_two"] (sp_l_div K)) (G_l_add : Pr P w K mg base 4 "_law_add" ["_law_one", "_law_two"] (sp_l_add K)) (G_l_mul : Pr P w K mg base 4 "_law_mul" ["_law_one", "_law_two"] (sp_l_mul K)) : Pr P w K mg base 5 "_law_head" ["_law_jet_here"] (sp_l_head K) := by
  refine pr_of D sc_l_head ?_ (fun _ _ _ _ _ _ us hl => match us, hl with | [_], _ => rfl) (fun f cdv A outer s H vs Q E hr h => ?_)
  · rintro vs H Q E ⟨j, s, b, rfl, _⟩
    rfl
  · obtain ⟨j, s, b, rfl, ⟨s', b', hj, hs, hb⟩, h0, bs, bb, c⟩ := h
    refine ⟨_, (pss_cons (ps_asg (pv 0) (pg_tup (by rfl) (pgs_cons (pg_name (i := 1) sc_l_head.nd rfl (by first | exact Or.inl rfl | exact Or.inr rfl)) (pgs_cons (pg_name (i := 2) sc_l_head.nd rfl (by first | exact Or.inl rfl | exact Or.inr rfl)) pgs_nil)))) (pss_one (ps_ret (pe_c G_l_div (hr.mono (by decide)) (by rfl) (pa_cons (pe_c G_l_add (hr.mono (by decide)) (by rfl) (pa_cons (pe_tup (pa_cons pe_int (pa_cons pe_int pa_nil))) (pa_cons (pe_c G_l_mul (hr.mono (by decide)) (by rfl) (pa_cons (pv 1) (pa_cons (pv 1) pa_nil))) pa_nil))) (pa_cons (pe_c G_l_mul (hr.mono (by decide)) (by rfl) (pa_cons (pe_tup (pa_cons pe_int (pa_cons pe_int pa_nil))) (pa_cons (pv 2) pa_nil))) pa_nil)))))), ?_⟩
    walk_at "st"
    rename_i p1 H1 n1 e1 h1 v2 H2 e2 h2
    refine u_l_add (p := 1) (fr_lit (e2 _ _ h1) rfl rfl) (by walk_at "fa") Bd.one (by walk_at "bd") (by decide) fun v3 H3 e3 h3 => ?_
    walk_at "rd"
    rename_i p4 H4 n4 e4 h4
    refine u_l_mul (p := 4) (fr_lit h4 rfl rfl) (by walk_at "fa") Bd.four (by walk_at "bd") (by decide) fun v5 H5 e5 h5 => ?_
    walk_at "rd"
    exact c _ _ (by walk_at "sm") (by assumption)
theorem ok_l_worth (D : Df K mg "_law_worth" st_l_worth) (G_l_add : Pr P w K mg base 4 "_law_add" ["_law_one", "_law_two"] (sp_l_add K)) (G_l_mul : Pr P w K mg base 4 "_law_mul" ["_law_one", "_law_two"] (sp_l_mul K)) : Pr P w K mg base 5 "_law_worth" ["_law_row_here", "_law_jet_here"] (sp_l_worth K) := by
  refine pr_of D sc_l_worth ?_ (fun _ _ _ _ _ _ us hl => match us, hl with | [_, _], _ => rfl) (fun f cdv A outer s H vs Q E hr h => ?_)
  · rintro vs H Q E ⟨v, j, r, s, b, rfl, _⟩
    rfl
  · obtain ⟨v, j, r, s, b, rfl, ⟨r1, r2, r3, hv, q1, q2, q3⟩, ⟨s', b', hj, hs, hb⟩, b1, b2, b3, bs, bb, c⟩ := h
    refine ⟨_, (pss_one (ps_ret (pe_c G_l_add (hr.mono (by decide)) (by rfl) (pa_cons (pe_c G_l_add (hr.mono (by decide)) (by rfl) (pa_cons (pe_c G_l_mul (hr.mono (by decide)) (by rfl) (pa_cons (pe_ix ix_tup (pv 0) pe_int (fun _ _ => rfl)) (pa_cons (pe_ix ix_tup (pv 1) pe_int (fun _ _ => rfl)) pa_nil))) (pa_cons (pe_c G_l_mul (hr.mono (by decide)) (by rfl) (pa_cons (pe_ix ix_tup (pv 0) pe_int (fun _ _ => rfl)) (pa_cons (pe_ix ix_tup (pv 1) pe_int (fun _ _ => rfl)) pa_nil))) pa_nil))) (pa_cons (pe_ix ix_tup (pv 0) pe_int (fun _ _ => rfl)) pa_nil))))), ?_⟩
    walk_at "st"
    exact c _ _ (by walk_at "sm") (by assumption)
theorem three {ys : List V} (h : ys.length = 3) : ∃ a b c, ys = [a, b, c] := by
  match ys, h with
  | [a, b, c], _ => exact ⟨a, b, c, rfl⟩
theorem bent_of {H : Hp} {v c' d' e' : V} {c d e : Rat} (h : Tp K H v [c', d', e']) (h1 : Fr K H c' c) (h2 : Fr K H d' d) (h3 : Fr K H e' e) : Bent K H v c d e := ⟨c', d', e', h, h1, h2, h3⟩
theorem bent_row {H : Hp} {v c' d' e' : V} {k : Ask} {c d e : Rat} (h : Tp K H v [c', d', e']) (h1 : Fr K H c' c) (h2 : Fr K H d' d) (h3 : Fr K H e' e) (hk : k.row = (c, d, e)) : Bent K H v k.row.1 k.row.2.1 k.row.2.2 := by
  rw [hk]
  exact ⟨c', d', e', h, h1, h2, h3⟩
theorem at3 {H : Hp} {x1 x2 x3 : V} {r1 r2 r3 : Rat} (h1 : Fr K H x1 r1) (h2 : Fr K H x2 r2) (h3 : Fr K H x3 r3) (i : Nat) (y : V) (h : [x1, x2, x3][i]? = some y) : ∃ q, [r1, r2, r3][i]? = some q ∧ Fr K H y q := by
  match i, h with
  | 0, h => cases h; exact ⟨r1, rfl, h1⟩
  | 1, h => cases h; exact ⟨r2, rfl, h2⟩
  | 2, h => cases h; exact ⟨r3, rfl, h3⟩
/-- [minus(e) for e in l] of three fractions -/
theorem r_neg3 {H : Hp} {Q : VK} {l : Addr} {x1 x2 x3 : V} {r1 r2 r3 : Rat} {σ : L2.St} {j : Nat} {vs : List Nat} (hl : H l = some (.lst [x1, x2, x3])) (h1 : Fr K H x1 r1) (h2 : Fr K H x2 r2) (h3 : Fr K H x3 r3)
    (hw : ∀ y, wipe ((wipe σ vs).set j (some y)) vs = wipe σ vs) (hj : ∀ y, ((wipe σ vs).set j (some y))[j]? = some (some y))
    (k : ∀ L H' a b c, Same H H' → H' L = some (.lst [a, b, c]) → Fr K H' a (-r1) → Fr K H' b (-r2) → Fr K H' c (-r3) → Q (.ref L) H') :
    LcL K j tYes (tCall (sp_l_minus K) [] E0 (tCons (tVar j) tNil)) vs σ (.ref l) H Q := by
  refine r_compL hl (by show 3 ≤ 1000; decide) (fun i z H' => ∃ q, [r1, r2, r3][i]? = some q ∧ Fr K H' z (-q)) (fun i y H1 H2 n ⟨q, a, b⟩ => ⟨q, a, b.nx n⟩) hw (fun i y H1 Q' hy e q => ?_) fun L H' ys hL e hL' hl' hr' => ?_
  · obtain ⟨r, er, hr⟩ := at3 h1 h2 h3 i y hy
    refine ⟨y, hj y, ?_⟩
    exact u_l_minus (E := E0) (hr.nx (Nx.of e)) fun v H2 e2 h2 => q _ _ e2 ⟨r, er, h2⟩
  · obtain ⟨a, b, c, rfl⟩ := three hl'
    obtain ⟨q1, e1, f1⟩ := hr' 0 a rfl
    obtain ⟨q2, e2, f2⟩ := hr' 1 b rfl
    obtain ⟨q3, e3, f3⟩ := hr' 2 c rfl
    cases e1
    cases e2
    cases e3
    exact k L H' a b c e hL' f1 f2 f3
theorem ok_l_row (D : Df K mg "_law_row" st_l_row) (T : Txt K mg z0 z1 z2 z4 zu zp zs zb zl) (G_l_minus : Pr P w K mg base 1 "_law_minus" ["_law_one"] (sp_l_minus K)) (G_l_mul : Pr P w K mg base 4 "_law_mul" ["_law_one", "_law_two"] (sp_l_mul K)) (G_l_far : Pr P w K mg base 4 "_law_far" ["_law_place_here"] (sp_l_far K)) (G_l_high : Pr P w K mg base 4 "_law_high" ["_law_place_here"] (sp_l_high K)) : Pr P w K mg base 5 "_law_row" ["_law_ask_here", "_law_distance"] (sp_l_row K) := by
  refine pr_of D sc_l_row ?_ (fun _ _ _ _ _ _ us hl => match us, hl with | [_, _], _ => rfl) (fun f cdv A outer s H vs Q E hr h => ?_)
  · rintro vs H Q E ⟨v, d, k, rfl, _⟩
    rfl
  · obtain ⟨v, d, k, rfl, hk, o, c⟩ := h
    refine ⟨_, (pss_cons (ps_set (i := 2) sc_l_row.nd rfl (by first | exact Or.inl rfl | exact Or.inr rfl) (pe_ix ix_tup (pv 0) pe_int (fun _ _ => rfl))) (pss_cons (ps_if (pt_cmpR op_eq (pv 2) pe_str (nomark _)) (pss_one (ps_ret (pe_tup (pa_cons (pe_tup (pa_cons pe_int (pa_cons pe_int pa_nil))) (pa_cons (pe_tup (pa_cons (pe_un un_neg pe_int) (pa_cons pe_int pa_nil))) (pa_cons (pe_ix ix_tup (pv 0) pe_int (fun _ _ => rfl)) pa_nil)))))) pss_nil) (pss_cons (ps_if (pt_cmpR op_eq (pv 2) pe_str (nomark _)) (pss_one (ps_ret (pe_tup (pa_cons (pe_tup (pa_cons pe_int (pa_cons pe_int pa_nil))) (pa_cons (pe_tup (pa_cons pe_int (pa_cons pe_int pa_nil))) (pa_cons (pe_c G_l_minus (hr.mono (by decide)) (by rfl) (pa_cons (pe_ix ix_tup (pv 0) pe_int (fun _ _ => rfl)) pa_nil)) pa_nil)))))) pss_nil) (pss_cons (ps_if (pt_cmpR op_in_seq (pv 2) (pe_lst (pa_cons pe_str (pa_cons pe_str pa_nil))) (by rfl)) (pss_one (ps_set (i := 3) sc_l_row.nd rfl (by first | exact Or.inl rfl | exact Or.inr rfl) (pe_lst (pa_cons (pe_tup (pa_cons (pe_un un_neg pe_int) (pa_cons pe_int pa_nil))) (pa_cons (pe_c G_l_mul (hr.mono (by decide)) (by rfl) (pa_cons (pe_tup (pa_cons pe_int (pa_cons pe_int pa_nil))) (pa_cons (pe_ix ix_tup (pv 0) pe_int (fun _ _ => rfl)) pa_nil))) (pa_cons (pe_ix ix_tup (pv 0) pe_int (fun _ _ => rfl)) pa_nil)))))) (pss_cons (ps_asg (pe_ifExp (pt_cmpR op_in_seq (pv 2) (pe_lst (pa_cons pe_str (pa_cons pe_str pa_nil))) (by rfl)) (pe_tup (pa_cons (pe_c G_l_far (hr.mono (by decide)) (by rfl) (pa_cons (pe_ix ix_tup (pv 0) pe_int (fun _ _ => rfl)) pa_nil)) (pa_cons (pe_c G_l_high (hr.mono (by decide)) (by rfl) (pa_cons (pe_ix ix_tup (pv 0) pe_int (fun _ _ => rfl)) pa_nil)) pa_nil))) pe_never) (pg_tup (by rfl) (pgs_cons (pg_name (i := 4) sc_l_row.nd rfl (by first | exact Or.inl rfl | exact Or.inr rfl)) (pgs_cons (pg_name (i := 5) sc_l_row.nd rfl (by first | exact Or.inl rfl | exact Or.inr rfl)) pgs_nil)))) (pss_one (ps_set (i := 3) sc_l_row.nd rfl (by first | exact Or.inl rfl | exact Or.inr rfl) (pe_lst (pa_cons (pe_c G_l_minus (hr.mono (by decide)) (by rfl) (pa_cons (pv 4) pa_nil)) (pa_cons (pe_c G_l_mul (hr.mono (by decide)) (by rfl) (pa_cons (pv 4) (pa_cons (pv 4) pa_nil))) (pa_cons (pv 5) pa_nil)))))))) (pss_one (ps_ret (pe_callTy cl_tuple (by rfl) T.n_tuple b_tuple (pa_cons (pe_ifExp (pt_cmpR op_in_seq (pv 2) (pe_lst (pa_cons pe_str (pa_cons pe_str pa_nil))) (by rfl)) (pe_lc (own := [("_law_each", 6)]) (g := gName 6) rfl sc_l_row.nd (pi_list (pv 3)) (blkOk_by (N := ["_law_ask_here", "_law_distance", "_law_word", "_law_row_here", "_law_x", "_law_y", "_law_each"]) (sc := defScope st_l_row) (by decide +kernel)) (fun _ _ _ _ _ => pg_name (i := 6) sc_l_row.nd rfl (by first | exact Or.inl rfl | exact Or.inr rfl)) (fun _ _ _ _ _ => pts_nil) (fun _ _ _ _ _ => (pe_c G_l_minus (hr.mono (by decide)) (by rfl) (pa_cons (pv 6) pa_nil)))) (pv 3)) pa_nil)))))))), ?_⟩
    cases k with
    | over x y w =>
      obtain ⟨p, hv, hp⟩ := hk
      walk_at "st"
      refine u_l_far (by walk_at "fa") o.1.2.1 o.2.1 o.2.2.2 (by decide) fun u1 H1 e1 h1 => ?_
      walk_at "rd"
      refine u_l_high (by walk_at "fa") o.1.2.1 o.2.2.1 o.2.2.2 (by decide) fun u2 H2 e2 h2 => ?_
      have bx := Bd.of o.1.2.1 o.2.1 o.2.2.2
      walk_at "rd"
      refine r_neg3 (by walk_at "ls") (by walk_at "fa") (by walk_at "fa") (by walk_at "fa") (fun _ => rfl) (fun _ => rfl) fun L H3 a b g e3 h3 f1 f2 f3 => ?_
      rw [Rat.neg_neg] at f1
      walk_at "rd"
      exact c _ _ (by walk_at "sm") (bent_row (by walk_at "fa") (by walk_at "fa") (by walk_at "fa") (by walk_at "fa") rfl)
    | under x y w =>
      obtain ⟨p, hv, hp⟩ := hk
      walk_at "st"
      refine u_l_far (by walk_at "fa") o.1.2.1 o.2.1 o.2.2.2 (by decide) fun u1 H1 e1 h1 => ?_
      walk_at "rd"
      refine u_l_high (by walk_at "fa") o.1.2.1 o.2.2.1 o.2.2.2 (by decide) fun u2 H2 e2 h2 => ?_
      have bx := Bd.of o.1.2.1 o.2.1 o.2.2.2
      walk_at "rd"
      exact c _ _ (by walk_at "sm") (bent_row (by walk_at "fa") (by walk_at "fa") (by walk_at "fa") (by walk_at "fa") rfl)
    | quick x =>
      obtain ⟨p, hv, hp⟩ := hk
      walk_at "st"
      rename_i p1 H1 n1 e1 h1 p2 H2 n2 e2 h2 p3 H3 n3 e3 h3
      have f1 : Fr K H1 (.ref p1) 0 := fr_lit h1 rfl rfl
      have f2 : Fr K H2 (.ref p2) (-1) := fr_lit h2 rfl rfl
      exact c _ _ (by walk_at "sm") (bent_row (by walk_at "fa") (by walk_at "fa") (by walk_at "fa") (by walk_at "fa") rfl)
    | slow x =>
      obtain ⟨p, hv, hp⟩ := hk
      walk_at "st"
      rename_i p1 H1 n1 e1 h1 p2 H2 n2 e2 h2 v3 H3 e3 h3 p4 H4 n4 e4 h4
      have f1 : Fr K H1 (.ref p1) 0 := fr_lit h1 rfl rfl
      have f2 : Fr K H2 (.ref p2) 1 := fr_lit h2 rfl rfl
      exact c _ _ (by walk_at "sm") (bent_row (by walk_at "fa") (by walk_at "fa") (by walk_at "fa") (by walk_at "fa") rfl)
    | dives x m =>
      obtain ⟨p, r, hv, hp, hr'⟩ := hk
      obtain ⟨-, ox, -⟩ := o
      walk_at "st"
      rename_i p0 H0 n0 e0 h0 p1 H1 n1 e1 h1 p2 H2 n2 e2 h2
      have f1 : Fr K H1 (.ref p1) (-1) := fr_lit h1 rfl rfl
      have f2 : Fr K H2 (.ref p2) 2 := fr_lit h2 rfl rfl
      have f2' : Bd 2 2 := Bd.two
      walk_at "rd"
      exact c _ _ (by walk_at "sm") (bent_row (by walk_at "fa") (by walk_at "fa") (by walk_at "fa") (by walk_at "fa") rfl)
    | climbs x m =>
      obtain ⟨p, r, hv, hp, hr'⟩ := hk
      obtain ⟨-, ox, -⟩ := o
      walk_at "st"
      rename_i p0 H0 n0 e0 h0 p1 H1 n1 e1 h1 p2 H2 n2 e2 h2
      have f1 : Fr K H1 (.ref p1) (-1) := fr_lit h1 rfl rfl
      have f2 : Fr K H2 (.ref p2) 2 := fr_lit h2 rfl rfl
      have f2' : Bd 2 2 := Bd.two
      walk_at "rd"
      refine r_neg3 (by walk_at "ls") (by walk_at "fa") (by walk_at "fa") (by walk_at "fa") (fun _ => rfl) (fun _ => rfl) fun L H3 a b g e3 h3 g1 g2 g3 => ?_
      rw [Rat.neg_neg] at g1
      walk_at "rd"
      exact c _ _ (by walk_at "sm") (bent_row (by walk_at "fa") (by walk_at "fa") (by walk_at "fa") (by walk_at "fa") rfl)
theorem ok_l_does (D : Df K mg "_law_does" st_l_does) (G_l_div : Pr P w K mg base 4 "_law_div" ["_law_one", "_law_two"] (sp_l_div K)) (G_l_far : Pr P w K mg base 4 "_law_far" ["_law_place_here"] (sp_l_far K)) (G_l_sub : Pr P w K mg base 4 "_law_sub" ["_law_one", "_law_two"] (sp_l_sub K)) (G_l_mul : Pr P w K mg base 4 "_law_mul" ["_law_one", "_law_two"] (sp_l_mul K)) (G_l_high : Pr P w K mg base 4 "_law_high" ["_law_place_here"] (sp_l_high K)) (G_l_less : Pr P w K mg base 1 "_law_less" ["_law_one", "_law_two"] (sp_l_less K)) (G_l_worth : Pr P w K mg base 5 "_law_worth" ["_law_row_here", "_law_jet_here"] (sp_l_worth K)) (G_l_row : Pr P w K mg base 5 "_law_row" ["_law_ask_here", "_law_distance"] (sp_l_row K)) (G_l_at : Pr P w K mg base 5 "_law_at" ["_law_jet_here", "_law_distance"] (sp_l_at K)) : Pr P w K mg base 6 "_law_does" ["_law_jet_here", "_law_ask_here"] (sp_l_does K) := by
  refine pr_of D sc_l_does ?_ (fun _ _ _ _ _ _ us hl => match us, hl with | [_, _], _ => rfl) (fun f cdv A outer s H vs Q E hr h => ?_)
  · rintro vs H Q E ⟨j, v, s, b, k, rfl, _⟩
    rfl
  · obtain ⟨j, v, s, b, k, rfl, ⟨s', b', hj, hs, hb⟩, hk, bs, bb, o, c⟩ := h
    refine ⟨_, (pss_cons (ps_asg (pv 0) (pg_tup (by rfl) (pgs_cons (pg_name (i := 5) sc_l_does.nd rfl (by first | exact Or.inl rfl | exact Or.inr rfl)) (pgs_cons (pg_name (i := 6) sc_l_does.nd rfl (by first | exact Or.inl rfl | exact Or.inr rfl)) pgs_nil)))) (pss_cons (ps_if (pt_cmpR op_eq (pe_ix ix_tup (pv 1) pe_int (fun _ _ => rfl)) pe_str (nomark _)) pss_never pss_nil) (pss_cons (ps_if (pt_cmpR op_ne (pe_ix ix_tup (pv 1) pe_int (fun _ _ => rfl)) pe_str (nomark _)) (pss_one (ps_ret (pe_cmpR op_ge (pe_ix ix_tup (pe_c G_l_worth (hr.mono (by decide)) (by rfl) (pa_cons (pe_c G_l_row (hr.mono (by decide)) (by rfl) (pa_cons (pv 1) (pa_cons (pe_tup (pa_cons pe_int (pa_cons pe_int pa_nil))) pa_nil))) (pa_cons (pv 0) pa_nil))) pe_int (fun _ _ => rfl)) pe_int (nomark _)))) pss_nil) pss_never))), ?_⟩
    have hw : ∃ z us, Tp K H v (.str z :: us) ∧ (decide (V.str z = V.str "low")) = false ∧ (decide (V.str z = V.str "roof")) = false := by
      cases k with
      | over x y w => obtain ⟨p, hv, hp⟩ := hk; exact ⟨_, _, hv, rfl, rfl⟩
      | under x y w => obtain ⟨p, hv, hp⟩ := hk; exact ⟨_, _, hv, rfl, rfl⟩
      | quick x => obtain ⟨p, hv, hp⟩ := hk; exact ⟨_, _, hv, rfl, rfl⟩
      | slow x => obtain ⟨p, hv, hp⟩ := hk; exact ⟨_, _, hv, rfl, rfl⟩
      | dives x m => obtain ⟨p, r, hv, hp, hr'⟩ := hk; exact ⟨_, _, hv, rfl, rfl⟩
      | climbs x m => obtain ⟨p, r, hv, hp, hr'⟩ := hk; exact ⟨_, _, hv, rfl, rfl⟩
    obtain ⟨z, us, hv, w1, w2⟩ := hw
    obtain ⟨b1, b2, b3⟩ := row_bd o
    walk_at "st"
    refine r_T (by rw [w2]; rfl) ?_
    walk_at "rd"
    refine u_l_row (by walk_at "fa") o fun u1 H2 e2 h2 => ?_
    walk_at "rd"
    refine u_l_worth h2 ⟨s', b', by walk_at "fa", by walk_at "fa", by walk_at "fa"⟩ b1 b2 b3 bs bb fun u3 H3 e3 h3 => ?_
    walk_at "rd"
    rw [show decide (0 ≤ (worthOf k.row s b).num) = decide (k.done s b) from decide_eq_decide.mpr Rat.num_nonneg]
    exact c _ (by walk_at "sm")
end
end K17
/-! The law's draws: whatever is drawn, it is of its kind. -/
namespace K17
set_option linter.all false
set_option maxRecDepth 100000
set_option maxHeartbeats 4000000
open PySem PySem.Spec PyProof.Rows L2
/-- behind a draw: the vat at a has changed alone -/
def Drawn (a : Addr) (H H' : Hp) : Prop := Go a H H' ∧ VatAt H' a
def sp_l_vat (K : PySem.W.Frag) : Sp := fun vs H Q _ => ∃ (a : Addr) (ns : List Int) (i : Nat), vs = [.ref a, .int (i : Nat)] ∧ SqL K H a (ns.map V.int) ∧ ns.length ≤ 63 ∧ i < 3 ∧ ∀ p H', H p = none → Same H H' → VatAt H' p → Q (.ref p) H'
def sp_l_draw (K : PySem.W.Frag) : Sp := fun vs H Q _ => ∃ (a : Addr) (n : Int), vs = [.ref a, .int n] ∧ VatAt H a ∧ 0 < n ∧ n < 1073741824 ∧ ∀ d H', 0 ≤ d → d < n → Go a H H' → VatAt H' a → Q (.int d) H'
def sp_l_pick (K : PySem.W.Frag) : Sp := fun vs H Q _ => ∃ (a l : Addr) (xs : List V), vs = [.ref a, .ref l] ∧ VatAt H a ∧ H l = some (.lst xs) ∧ l ≠ a ∧ 0 < xs.length ∧ xs.length ≤ 1000 ∧ ∀ v H', v ∈ xs → Go a H H' → VatAt H' a → Q v H'
def sp_l_about (K : PySem.W.Frag) : Sp := fun vs H Q _ => ∃ (a : Addr) (n : Int), vs = [.ref a, .int n] ∧ VatAt H a ∧ 0 < n ∧ n ≤ 1000000000 ∧ ∀ i H', -n ≤ i → i ≤ n → Go a H H' → VatAt H' a → Q (.int i) H'
def sp_l_size (K : PySem.W.Frag) : Sp := fun vs H Q _ => ∃ (a : Addr), vs = [.ref a] ∧ VatAt H a ∧ ∀ i H', 0 < i → i ≤ 1000000000 → Go a H H' → VatAt H' a → Q (.int i) H'
def sp_l_some_frac (K : PySem.W.Frag) : Sp := fun vs H Q _ => ∃ (a : Addr) (n : Int), vs = [.ref a, .int n] ∧ VatAt H a ∧ 0 < n ∧ n ≤ 1000000000 ∧ ∀ v q H', Fr K H' v q → Bd 31 q → Go a H H' → VatAt H' a → Q v H'
def sp_l_above (K : PySem.W.Frag) : Sp := fun vs H Q _ => ∃ (a : Addr) (n : Int), vs = [.ref a, .int n] ∧ VatAt H a ∧ 0 < n ∧ n ≤ 1000000000 ∧ ∀ v q H', Fr K H' v q → 0 < q → Bd 31 q → Go a H H' → VatAt H' a → Q v H'
def sp_l_place (K : PySem.W.Frag) : Sp := fun vs H Q _ => ∃ (a : Addr) (n : Int), vs = [.ref a, .int n] ∧ VatAt H a ∧ 0 < n ∧ n ≤ 1000000000 ∧ ∀ v x y w H', PlAt K H' v x y w → Go a H H' → VatAt H' a → Q v H'
def sp_l_jet (K : PySem.W.Frag) : Sp := fun vs H Q _ => ∃ (a : Addr), vs = [.ref a] ∧ VatAt H a ∧ ∀ v s b H', JetAt K H' v s b → 0 < b → Bd 31 s → Bd 31 b → Go a H H' → VatAt H' a → Q v H'
section
variable {K : PySem.W.Frag} {H : Hp} {Q : VK} {E : XK} {a l : Addr} {n : Int}
theorem u_l_vat {ns : List Int} {i : Nat} (h : SqL K H a (ns.map V.int)) (hl : ns.length ≤ 63) (hi : i < 3) (k : ∀ p H', H p = none → Same H H' → VatAt H' p → Q (.ref p) H') : sp_l_vat K ([.ref a, .int (i : Nat)] ++ []) H Q E := ⟨a, ns, i, rfl, h, hl, hi, k⟩
theorem u_l_draw (v : VatAt H a) (h0 : 0 < n) (h1 : n < 1073741824) (k : ∀ d H', 0 ≤ d → d < n → Go a H H' → VatAt H' a → Q (.int d) H') : sp_l_draw K ([.ref a, .int n] ++ []) H Q E := ⟨a, n, rfl, v, h0, h1, k⟩
theorem u_l_pick {xs : List V} (v : VatAt H a) (h : H l = some (.lst xs)) (n : l ≠ a) (h0 : 0 < xs.length) (h1 : xs.length ≤ 1000) (k : ∀ v H', v ∈ xs → Go a H H' → VatAt H' a → Q v H') : sp_l_pick K ([.ref a, .ref l] ++ []) H Q E := ⟨a, l, xs, rfl, v, h, n, h0, h1, k⟩
theorem u_l_about (v : VatAt H a) (h0 : 0 < n) (h1 : n ≤ 1000000000) (k : ∀ i H', -n ≤ i → i ≤ n → Go a H H' → VatAt H' a → Q (.int i) H') : sp_l_about K ([.ref a, .int n] ++ []) H Q E := ⟨a, n, rfl, v, h0, h1, k⟩
theorem u_l_size (v : VatAt H a) (k : ∀ i H', 0 < i → i ≤ 1000000000 → Go a H H' → VatAt H' a → Q (.int i) H') : sp_l_size K ([.ref a] ++ []) H Q E := ⟨a, rfl, v, k⟩
theorem u_l_some_frac (v : VatAt H a) (h0 : 0 < n) (h1 : n ≤ 1000000000) (k : ∀ v q H', Fr K H' v q → Bd 31 q → Go a H H' → VatAt H' a → Q v H') : sp_l_some_frac K ([.ref a, .int n] ++ []) H Q E := ⟨a, n, rfl, v, h0, h1, k⟩
theorem u_l_above (v : VatAt H a) (h0 : 0 < n) (h1 : n ≤ 1000000000) (k : ∀ v q H', Fr K H' v q → 0 < q → Bd 31 q → Go a H H' → VatAt H' a → Q v H') : sp_l_above K ([.ref a, .int n] ++ []) H Q E := ⟨a, n, rfl, v, h0, h1, k⟩
theorem u_l_place (v : VatAt H a) (h0 : 0 < n) (h1 : n ≤ 1000000000) (k : ∀ v x y w H', PlAt K H' v x y w → Go a H H' → VatAt H' a → Q v H') : sp_l_place K ([.ref a, .int n] ++ []) H Q E := ⟨a, n, rfl, v, h0, h1, k⟩
theorem u_l_jet (v : VatAt H a) (k : ∀ v s b H', JetAt K H' v s b → 0 < b → Bd 31 s → Bd 31 b → Go a H H' → VatAt H' a → Q v H') : sp_l_jet K ([.ref a] ++ []) H Q E := ⟨a, rfl, v, k⟩
end
local macro_rules | `(tactic| walk_at "bd") => `(tactic| first
  | with_reducible assumption
  | exact Bd.zero | exact Bd.one | exact Bd.two | exact Bd.four
  | ((with_reducible apply Bd.add) <;> walk_at "bd")
  | ((with_reducible apply Bd.sub) <;> walk_at "bd")
  | ((with_reducible apply Bd.mul) <;> walk_at "bd")
  | ((with_reducible apply Bd.div); (· walk_at "bd"); (· walk_at "bd"); (· walk_at "po"))
  | ((with_reducible apply Bd.neg) <;> walk_at "bd"))
local macro_rules | `(tactic| walk_at "bi") => `(tactic| first
  | with_reducible assumption
  | ((with_reducible apply Bd.bn) <;> walk_at "bd")
  | ((with_reducible apply Bd.bd) <;> walk_at "bd")
  | ((with_reducible apply Bi.mul) <;> walk_at "bi")
  | ((with_reducible apply Bi.add) <;> walk_at "bi")
  | ((with_reducible apply Bi.sub) <;> walk_at "bi")
  | ((with_reducible apply Bi.neg) <;> walk_at "bi"))
local macro_rules | `(tactic| walk_at "va") => `(tactic| first
  | with_reducible assumption
  | ((with_reducible apply VatAt.back); (· with_reducible assumption); walk_at "va"))
local macro_rules | `(tactic| walk_at "nx") => `(tactic| first
  | ((with_reducible apply Nx.of); with_reducible assumption)
  | ((with_reducible apply Nx.gov); (· with_reducible assumption); (· walk_at "va")))
local macro_rules | `(tactic| walk_at "fa") => `(tactic| first
  | with_reducible assumption
  | ((with_reducible apply tp_of); with_reducible assumption)
  | ((with_reducible apply Txt.t_ZERO); with_reducible assumption) | ((with_reducible apply Txt.t_ONE); with_reducible assumption) | ((with_reducible apply Txt.t_TWO); with_reducible assumption) | ((with_reducible apply Txt.t_FOUR); with_reducible assumption) | ((with_reducible apply Txt.t_UNIT); with_reducible assumption) | ((with_reducible apply Txt.t_PLACED); with_reducible assumption) | ((with_reducible apply Txt.t_STEEP); with_reducible assumption) | ((with_reducible apply Txt.t_BENT); with_reducible assumption) | ((with_reducible apply Txt.t_LEAST); with_reducible assumption)
  | ((with_reducible apply Fr.back); (· walk_at "nx"); walk_at "fa")
  | ((with_reducible apply Tp.back); (· walk_at "nx"); walk_at "fa")
  | ((with_reducible apply JetAt.back); (· walk_at "nx"); walk_at "fa")
  | ((with_reducible apply AskAt.back); (· walk_at "nx"); walk_at "fa"))
local macro_rules | `(tactic| walk_at "sm") => `(tactic| first
  | with_reducible assumption
  | with_reducible exact Same.refl _
  | (apply Same.back; (· with_reducible assumption); walk_at "sm"))
local macro_rules | `(tactic| walk_at "ls") => `(tactic| first
  | with_reducible assumption
  | ((with_reducible apply ls_back); (· with_reducible assumption); walk_at "ls"))
local macro_rules | `(tactic| walk_at "go") => `(tactic| first
  | with_reducible assumption
  | with_reducible exact Go.refl _
  | ((with_reducible apply Go.of); with_reducible assumption)
  | ((with_reducible apply Go.backS); (· with_reducible assumption); walk_at "go")
  | ((with_reducible apply Go.back); (· with_reducible assumption); walk_at "go"))
local macro_rules | `(tactic| walk_at "lg") => `(tactic| first
  | with_reducible assumption
  | ((with_reducible apply ls_back); (· with_reducible assumption); walk_at "lg")
  | ((with_reducible apply ls_go); (· with_reducible assumption); (· with_reducible assumption); walk_at "lg"))
local macro_rules | `(tactic| walk_at "sq") => `(tactic| first
  | with_reducible assumption
  | ((with_reducible apply SqL.of); walk_at "lg")
  | ((with_reducible apply sq_back); (· with_reducible assumption); walk_at "sq"))
local macro_rules | `(tactic| walk_at "fx") => `(tactic| first
  | walk_at "fa"
  | ((with_reducible apply Fr.tp); walk_at "fa"))
local macro_rules | `(tactic| walk_at "rd1") => `(tactic| first
  | with_reducible refine r_ret ?_ | with_reducible refine r_seq ?_ | with_reducible refine r_asg ?_ | with_reducible refine r_drop ?_ | with_reducible refine r_ifS ?_ | with_reducible refine r_par ?_ | with_reducible refine r_next ?_
  | with_reducible refine r_name ?_ | with_reducible refine r_gcons ?_ | with_reducible refine r_gnil ?_
  | ((with_reducible apply r_var); (· rfl))
  | with_reducible refine r_c ?_ | with_reducible refine r_op ?_ | with_reducible refine r_un ?_ | with_reducible refine r_call ?_ | with_reducible refine r_cb ?_ | with_reducible refine r_cons ?_ | with_reducible refine r_nil ?_
  | with_reducible refine r_tup ?_ | with_reducible refine r_lst ?_ | with_reducible refine r_if ?_ | with_reducible refine r_test ?_ | with_reducible refine r_B ?_ | with_reducible refine r_and ?_ | with_reducible refine r_or ?_ | with_reducible refine r_not ?_
  | with_reducible refine r_for ?_ | with_reducible refine r_iTup ?_ | with_reducible refine r_iList ?_ | with_reducible refine r_iEnumT ?_ | with_reducible refine r_iRng1 ?_ | with_reducible refine r_lcT ?_ | with_reducible refine r_lcL ?_ | with_reducible refine r_lcR ?_
  | with_reducible refine r_andV ?_ | with_reducible refine r_orV ?_ | with_reducible refine r_notV ?_ | with_reducible refine r_bl ?_
  | with_reducible refine r_I0 ?_ | with_reducible refine r_U ?_ | with_reducible refine r_par2 ?_
  | ((with_reducible refine r_eq ?_ ?_); (· rfl)) | ((with_reducible refine r_ne ?_ ?_); (· rfl))
  | ((with_reducible apply r_ixT); (· walk_at "fx"); (· first | rfl | exact atI_zero _ _))
  | ((with_reducible apply r_gtup); (· walk_at "fx"); (· rfl))
  | ((with_reducible apply r_mulW); (· walk_at "bi"); (· walk_at "bi"); (· first | omega | decide))
  | ((with_reducible apply r_isi_tt); (· walk_at "fx")) | with_reducible refine r_isi_ii ?_ | with_reducible refine r_isi_ib ?_ | with_reducible refine r_isi_ss ?_
  | with_reducible refine r_isNon ?_ | with_reducible refine r_isBl ?_
  | ((with_reducible apply r_lenT); (· walk_at "fx")) | with_reducible refine r_abs ?_ | with_reducible refine r_max ?_ | with_reducible refine r_min ?_ | with_reducible refine r_int ?_
  | ((with_reducible apply r_inT); (· walk_at "fx"); (· rfl); (· rfl)) | ((with_reducible apply r_niT); (· walk_at "fx"); (· rfl); (· rfl))
  | ((with_reducible apply r_inL); (· walk_at "ls"); (· rfl); (· rfl))
  | ((with_reducible apply r_tupOfL); (· walk_at "ls"); intro _ _ _ _ _)
  | ((with_reducible refine r_newT ?_ ?_); (· exact Nat.le_of_ble_eq_true rfl); intro _ _ _ _ _)
  | ((with_reducible refine r_newL ?_ ?_); (· exact Nat.le_of_ble_eq_true rfl); intro _ _ _ _ _)
  | ((with_reducible refine r_T ?_ ?_); (· first | rfl | with_reducible assumption))
  | ((with_reducible refine r_F ?_ ?_); (· first | rfl | with_reducible assumption)))
local macro_rules | `(tactic| walk_at "po") => `(tactic| first
  | with_reducible assumption
  | ((with_reducible apply Rat.mul_pos) <;> walk_at "po")
  | exact two_pos | exact four_pos)
local macro_rules | `(tactic| walk_at "sz") => `(tactic| first | omega | decide)
local macro_rules | `(tactic| walk_at "rd1") => `(tactic| first
  | ((with_reducible apply u_ratio_sum); (· walk_at "fa"); (· walk_at "fa"); (· walk_at "bd"); (· walk_at "bd"); (· walk_at "sz"); intro _ _ _ _)
  | ((with_reducible apply u_ratio_product); (· walk_at "fa"); (· walk_at "fa"); (· walk_at "bd"); (· walk_at "bd"); (· walk_at "sz"); intro _ _ _ _)
  | ((with_reducible apply u_ratio_over); (· walk_at "fa"); (· walk_at "fa"); (· walk_at "bd"); (· walk_at "bd"); (· walk_at "sz"); (· walk_at "po"); intro _ _ _ _)
  | ((with_reducible apply u_is_lower); (· walk_at "fa"); (· walk_at "fa"); (· walk_at "bd"); (· walk_at "bd"); (· walk_at "sz"))
  | ((with_reducible apply u_ratio_back); (· walk_at "fa"); intro _ _ _ _)
  | ((with_reducible apply u_is_ratio); (· walk_at "fa"); intro _ _))
local macro_rules | `(tactic| walk_at "rd1") => `(tactic| first
  | ((with_reducible apply u_l_add); (· walk_at "fa"); (· walk_at "fa"); (· walk_at "bd"); (· walk_at "bd"); (· walk_at "sz"); intro _ _ _ _)
  | ((with_reducible apply u_l_sub); (· walk_at "fa"); (· walk_at "fa"); (· walk_at "bd"); (· walk_at "bd"); (· walk_at "sz"); intro _ _ _ _)
  | ((with_reducible apply u_l_mul); (· walk_at "fa"); (· walk_at "fa"); (· walk_at "bd"); (· walk_at "bd"); (· walk_at "sz"); intro _ _ _ _)
  | ((with_reducible apply u_l_div); (· walk_at "fa"); (· walk_at "fa"); (· walk_at "bd"); (· walk_at "bd"); (· walk_at "sz"); (· walk_at "po"); intro _ _ _ _)
  | ((with_reducible apply u_l_less); (· walk_at "fa"); (· walk_at "fa"); (· walk_at "bd"); (· walk_at "bd"); (· walk_at "sz"))
  | ((with_reducible apply u_l_minus); (· walk_at "fa"); intro _ _ _ _))
local macro_rules | `(tactic| walk_at "rd1") => `(tactic| first
  | with_reducible refine r_sl ?_ | with_reducible refine r_part ?_ | with_reducible refine r_nopart ?_ | with_reducible refine r_some ?_ | with_reducible refine r_gsub ?_
  | ((with_reducible apply r_slL); (· walk_at "sq"); intro _ _ _ _ _)
  | ((with_reducible apply r_mulL); (· first | exact Or.inl (by decide) | exact Or.inr (by decide)))
  | ((with_reducible apply r_powL); (· exact ⟨by decide, by decide, by decide⟩))
  | ((with_reducible apply r_lenL); (· walk_at "sq"))
  | ((with_reducible apply r_ixL); (· walk_at "sq"); (· rfl))
  | ((with_reducible apply r_mod); (· first | with_reducible assumption | decide | omega))
  | ((with_reducible apply r_setL); (· walk_at "lg"); (· rfl); intro _ _ _)
  | ((with_reducible apply r_cat); (· walk_at "ls"); (· walk_at "ls"); (· first | omega | exact Nat.le_of_ble_eq_true rfl); intro _ _ _ _ _))
local macro_rules | `(tactic| walk_at "rd") => `(tactic| repeat walk_at "rd1")
local macro_rules | `(tactic| walk_at "st") => `(tactic| ((try simp only [cx_K]); walk_at "rd"))

section
variable {P : Program} {w : World} {K : PySem.W.Frag} {mg : Str → Option Value} {base : Heap} {z0 z1 z2 z4 zu zp zs zb zl : Addr}
theorem ok_l_draw (D : Df K mg "_law_draw" st_l_draw) (T : Txt K mg z0 z1 z2 z4 zu zp zs zb zl) : Pr P w K mg base 1 "_law_draw" ["_law_vat_here", "_law_many"] (sp_l_draw K) := by
  refine pr_of D sc_l_draw ?_ (fun _ _ _ _ _ _ us hl => match us, hl with | [_, _], _ => rfl) (fun f cdv A outer s H vs Q E hr h => ?_)
  · rintro vs H Q E ⟨a, n, rfl, _⟩
    rfl
  · obtain ⟨a, n, rfl, ⟨x, y, z, hv⟩, h0, h1, c⟩ := h
    refine ⟨_, (pss_cons (ps_if (pt_cmpR op_gt (pe_ix ix_list (pv 0) pe_int (fun _ _ => rfl)) pe_int (nomark _)) (pss_cons (ps_asg (pe_callB cl_divmod (by rfl) T.n_divmod b_divmod (pa_cons (pe_ix ix_list (pv 0) pe_int (fun _ _ => rfl)) (pa_cons (pv 1) pa_nil))) (pg_tup (by rfl) (pgs_cons (pg_sub (pv 0) pe_int set_list) (pgs_cons (pg_name (i := 3) sc_l_draw.nd rfl (by first | exact Or.inl rfl | exact Or.inr rfl)) pgs_nil)))) (pss_one (ps_ret (pv 3)))) pss_nil) (pss_cons (ps_asg (pe_op op_add (pe_ix ix_list (pv 0) pe_int (fun _ _ => rfl)) pe_int) (pg_sub (pv 0) pe_int set_list)) (pss_cons (ps_set (i := 2) sc_l_draw.nd rfl (by first | exact Or.inl rfl | exact Or.inr rfl) (pe_op op_add (pe_op op_mod (pe_callTy cl_int (by rfl) T.n_int b_int (pa_cons (pe_ix ix_list (pv 0) pe_int (fun _ _ => rfl)) pa_nil)) pe_int) pe_int)) (pss_cons (ps_asg (pe_op op_mod (pe_callTy cl_int (by rfl) T.n_int b_int (pa_cons (pe_op op_add (pe_op op_add (pe_op op_mul (pe_ix ix_list (pv 0) pe_int (fun _ _ => rfl)) (pv 2)) (pe_op op_mul pe_int (pe_ix ix_list (pv 0) pe_int (fun _ _ => rfl)))) pe_int) pa_nil)) pe_int) (pg_sub (pv 0) pe_int set_list)) (pss_one (ps_ret (pe_op op_mod (pe_callTy cl_int (by rfl) T.n_int b_int (pa_cons (pe_op op_fdivW (pe_ix ix_list (pv 0) pe_int (fun _ _ => rfl)) pe_int) pa_nil)) (pv 1)))))))), ?_⟩
    walk_at "st"
    refine r_ite (fun hx => ?_) (fun hx => ?_)
    · walk_at "rd"
      refine r_divmod h0 h1 fun p H1 n1 e1 h1' => ?_
      walk_at "rd"
      rename_i H2 g2 h2
      exact c _ _ (Int.emod_nonneg _ (by omega)) (Int.emod_lt_of_pos _ h0) ((Go.of e1).trans g2) ⟨_, _, _, h2⟩
    · walk_at "rd"
      have f0 := Int.emod_nonneg y (show (19013 : Int) ≠ 0 by decide)
      have f1 := Int.emod_lt_of_pos y (show (0 : Int) < 19013 by decide)
      refine r_mulL (.inr ⟨by omega, by omega⟩) ?_
      walk_at "rd"
      refine r_divW (B := 10) (by decide) (by unfold Bi; decide) (by decide) ?_
      walk_at "rd"
      rename_i H1 g1 h1' H2 g2 h2
      exact c _ _ (Int.emod_nonneg _ (by omega)) (Int.emod_lt_of_pos _ h0) (g1.trans g2) ⟨_, _, _, h2⟩
theorem cut_ints (ns : List Int) (lo hi : Option Int) : ∃ ms : List Int, cutV (ns.map V.int) lo hi = ms.map V.int ∧ ms.length ≤ ns.length := by
  refine ⟨(ns.drop (HT.sIx ns.length 0 lo)).take (HT.sIx ns.length ns.length hi - HT.sIx ns.length 0 lo), ?_, ?_⟩
  · unfold cutV
    rw [List.length_map, List.map_take, List.map_drop]
  · rw [List.length_take, List.length_drop]
    omega
theorem r_sum {H : Hp} {Q : VK} {a : Addr} {ms : List Int} (h : H a = some (.lst (ms.map V.int))) (q : Q (.int ms.sum) H) : rSum K [.ref a] H Q := ⟨a, ms, rfl, SqL.of h, q⟩
theorem ok_l_vat (D : Df K mg "_law_vat" st_l_vat) (T : Txt K mg z0 z1 z2 z4 zu zp zs zb zl) : Pr P w K mg base 1 "_law_vat" ["_law_script", "_law_lap"] (sp_l_vat K) := by
  refine pr_of D sc_l_vat ?_ (fun _ _ _ _ _ _ us hl => match us, hl with | [_, _], _ => rfl) (fun f cdv A outer s H vs Q E hr h => ?_)
  · rintro vs H Q E ⟨a, ns, i, rfl, _⟩
    rfl
  · obtain ⟨a, ns, i, rfl, hs, hl, hi, c⟩ := h
    refine ⟨_, (pss_cons (ps_set (i := 2) sc_l_vat.nd rfl (by first | exact Or.inl rfl | exact Or.inr rfl) (pe_ifExp (pt_cmpR op_lt (pv 1) (pe_callB cl_len (by rfl) T.n_len b_len (pa_cons (pv 0) pa_nil)) (nomark _)) (pe_callTy cl_int (by rfl) T.n_int b_int (pa_cons (pe_ix ix_list (pv 0) (pv 1) (fun _ _ => rfl)) pa_nil)) (pe_op op_add (pe_op op_add (pe_op op_mul pe_int (pv 1)) pe_int) (pe_op op_mod (pe_callTy cl_int (by rfl) T.n_int b_int (pa_cons (pe_callB (cr_sum rfl) (by rfl) T.n_sum b_sum (pa_cons (pe_slice sl_list (pv 0) po_none (po_some pe_int)) pa_nil)) pa_nil)) pe_int)))) (pss_cons (ps_set (i := 3) sc_l_vat.nd rfl (by first | exact Or.inl rfl | exact Or.inr rfl) (pe_op op_add pe_int (pe_op op_mul pe_int (pv 1)))) (pss_cons (ps_for PassesOwn.never rfl (pi_list (pe_op op_cat (pe_slice sl_list (pv 0) po_none (po_some pe_int)) (pe_lst (pa_cons (pv 2) pa_nil)))) (pg_name (i := 4) sc_l_vat.nd rfl (by first | exact Or.inl rfl | exact Or.inr rfl)) (pss_one (ps_set (i := 3) sc_l_vat.nd rfl (by first | exact Or.inl rfl | exact Or.inr rfl) (pe_op op_mod (pe_callTy cl_int (by rfl) T.n_int b_int (pa_cons (pe_op op_add (pe_op op_add (pe_op op_mul (pv 3) pe_int) (pe_op op_mod (pe_callTy cl_int (by rfl) T.n_int b_int (pa_cons (pv 4) pa_nil)) pe_int)) pe_int) pa_nil)) pe_int)))) (pss_one (ps_ret (pe_lst (pa_cons (pe_ifExp (PW.pt (pw_or (pt_cmpR op_lt (pv 2) pe_int (nomark _)) (pw_or1 (pt_cmpR op_ge (pv 2) (pe_op op_pow pe_int pe_int) (nomark _))))) (pe_callB cl_abs (by rfl) T.n_abs b_abs (pa_cons (pv 2) pa_nil)) pe_int) (pa_cons (pv 3) (pa_cons pe_int pa_nil))))))))), ?_⟩
    obtain ⟨ms, em, lm⟩ := cut_ints ns none (some 12)
    obtain ⟨ks, ek, lk⟩ := cut_ints ns none (some 6)
    walk_at "st"
    refine r_ite (fun hx => ?_) (fun hx => ?_)
    · have hx' : i < ns.length := by
        have := of_decide_eq_true hx
        rw [List.length_map] at this
        omega
      walk_at "rd"
      refine r_ixL (v := .int ns[i]) hs (at_of (j := i) rfl (by rw [List.getElem?_map, List.getElem?_eq_getElem hx']; rfl)) ?_
      walk_at "rd"
      rename_i p1 H1 n1 e1 h1 p2 H2 n2 e2 h2
      rw [em] at h1
      refine r_cat (by walk_at "ls") h2 (by rw [List.length_map]; show ms.length + 1 ≤ 1000; omega) fun p3 H3 n3 e3 h3 => ?_
      have h3' : H3 p3 = some (.lst ((ms ++ [ns[i]]).map V.int)) := by rw [List.map_append]; exact h3
      walk_at "rd"
      refine r_loopL (SqL.of h3') (fun _ σ' H' => H' = H3 ∧ ∃ churn u, σ' = [some (.ref a), some (.int (i : Nat)), some (.int (ns[i])), some (.int churn), u]) ⟨rfl, _, _, rfl⟩ ?_ ?_ ?_
      · rintro j σ' H' ⟨rfl, _⟩
        exact SqL.of h3'
      · rintro j y σ' H' hy ⟨rfl, churn, u, rfl⟩
        obtain ⟨n, rfl, hn⟩ := map_at hy
        walk_at "rd"
        exact ⟨rfl, _, _, rfl⟩
      · rintro σ' H' ⟨rfl, churn, u, rfl⟩
        have es : Same H H' := by walk_at "sm"
        walk_at "rd"
        refine r_ite (fun _ => ?_) (fun _ => ?_)
        · walk_at "rd"
          rename_i p4 H4 n4 e4 h4
          exact c _ _ (es.free n4) (es.trans e4) ⟨_, _, _, h4⟩
        · walk_at "rd"
          refine r_ite (fun _ => ?_) (fun _ => ?_)
          · walk_at "rd"
            rename_i p4 H4 n4 e4 h4
            exact c _ _ (es.free n4) (es.trans e4) ⟨_, _, _, h4⟩
          · walk_at "rd"
            rename_i p4 H4 n4 e4 h4
            exact c _ _ (es.free n4) (es.trans e4) ⟨_, _, _, h4⟩
    · walk_at "rd"
      rename_i p0 H0 n0 e0 h0
      rw [ek] at h0
      refine r_sum h0 ?_
      walk_at "rd"
      rename_i p1 H1 n1 e1 h1 p2 H2 n2 e2 h2
      rw [em] at h1
      refine r_cat (by walk_at "ls") h2 (by rw [List.length_map]; show ms.length + 1 ≤ 1000; omega) fun p3 H3 n3 e3 h3 => ?_
      have h3' : H3 p3 = some (.lst ((ms ++ [7307 * ((i : Nat) : Int) + 67 + ks.sum % 1000117]).map V.int)) := by rw [List.map_append]; exact h3
      walk_at "rd"
      refine r_loopL (SqL.of h3') (fun _ σ' H' => H' = H3 ∧ ∃ churn u, σ' = [some (.ref a), some (.int (i : Nat)), some (.int (7307 * ((i : Nat) : Int) + 67 + ks.sum % 1000117)), some (.int churn), u]) ⟨rfl, _, _, rfl⟩ ?_ ?_ ?_
      · rintro j σ' H' ⟨rfl, _⟩
        exact SqL.of h3'
      · rintro j y σ' H' hy ⟨rfl, churn, u, rfl⟩
        obtain ⟨n, rfl, hn⟩ := map_at hy
        walk_at "rd"
        exact ⟨rfl, _, _, rfl⟩
      · rintro σ' H' ⟨rfl, churn, u, rfl⟩
        have es : Same H H' := by walk_at "sm"
        walk_at "rd"
        refine r_ite (fun _ => ?_) (fun _ => ?_)
        · walk_at "rd"
          rename_i p4 H4 n4 e4 h4
          exact c _ _ (es.free n4) (es.trans e4) ⟨_, _, _, h4⟩
        · walk_at "rd"
          refine r_ite (fun _ => ?_) (fun _ => ?_)
          · walk_at "rd"
            rename_i p4 H4 n4 e4 h4
            exact c _ _ (es.free n4) (es.trans e4) ⟨_, _, _, h4⟩
          · walk_at "rd"
            rename_i p4 H4 n4 e4 h4
            exact c _ _ (es.free n4) (es.trans e4) ⟨_, _, _, h4⟩
theorem ok_l_pick (D : Df K mg "_law_pick" st_l_pick) (T : Txt K mg z0 z1 z2 z4 zu zp zs zb zl) (G_l_draw : Pr P w K mg base 1 "_law_draw" ["_law_vat_here", "_law_many"] (sp_l_draw K)) : Pr P w K mg base 2 "_law_pick" ["_law_vat_here", "_law_some"] (sp_l_pick K) := by
  refine pr_of D sc_l_pick ?_ (fun _ _ _ _ _ _ us hl => match us, hl with | [_, _], _ => rfl) (fun f cdv A outer s H vs Q E hr h => ?_)
  · rintro vs H Q E ⟨a, l, xs, rfl, _⟩
    rfl
  · obtain ⟨a, l, xs, rfl, hv, hl, hn, h0, h1, c⟩ := h
    refine ⟨_, (pss_one (ps_ret (pe_ix ix_list (pv 1) (pe_c G_l_draw (hr.mono (by decide)) (by rfl) (pa_cons (pv 0) (pa_cons (pe_callB cl_len (by rfl) T.n_len b_len (pa_cons (pv 1) pa_nil)) pa_nil))) (fun _ _ => rfl)))), ?_⟩
    walk_at "st"
    refine u_l_draw hv (by omega) (by omega) fun d H1 d0 d1 g1 v1 => ?_
    have hd : d.toNat < xs.length := by omega
    refine r_ixL (v := xs[d.toNat]) (SqL.of (ls_go g1 hn hl)) (at_of (j := d.toNat) (by omega) (List.getElem?_eq_getElem hd)) ?_
    exact c _ _ (List.getElem_mem hd) g1 v1
theorem ok_l_about (D : Df K mg "_law_about" st_l_about) (T : Txt K mg z0 z1 z2 z4 zu zp zs zb zl) (G_l_draw : Pr P w K mg base 1 "_law_draw" ["_law_vat_here", "_law_many"] (sp_l_draw K)) : Pr P w K mg base 2 "_law_about" ["_law_vat_here", "_law_wide"] (sp_l_about K) := by
  refine pr_of D sc_l_about ?_ (fun _ _ _ _ _ _ us hl => match us, hl with | [_, _], _ => rfl) (fun f cdv A outer s H vs Q E hr h => ?_)
  · rintro vs H Q E ⟨a, n, rfl, _⟩
    rfl
  · obtain ⟨a, n, rfl, hv, h0, h1, c⟩ := h
    refine ⟨_, (pss_cons (ps_if (pt_cmpR op_lt (pv 1) (pe_op op_pow pe_int pe_int) (nomark _)) (pss_one (ps_ret (pe_op op_sub (pe_c G_l_draw (hr.mono (by decide)) (by rfl) (pa_cons (pv 0) (pa_cons (pe_op op_add (pe_op op_mul pe_int (pv 1)) pe_int) pa_nil))) (pv 1)))) pss_nil) (pss_cons (ps_set (i := 2) sc_l_about.nd rfl (by first | exact Or.inl rfl | exact Or.inr rfl) (pe_c G_l_draw (hr.mono (by decide)) (by rfl) (pa_cons (pv 0) (pa_cons pe_int pa_nil)))) (pss_one (ps_ret (pe_op op_sub (pe_op op_mod (pe_callTy cl_int (by rfl) T.n_int b_int (pa_cons (pe_op op_add (pe_op op_mul (pv 2) pe_int) (pe_c G_l_draw (hr.mono (by decide)) (by rfl) (pa_cons (pv 0) (pa_cons pe_int pa_nil)))) pa_nil)) (pe_op op_add (pe_op op_mul pe_int (pv 1)) pe_int)) (pv 1)))))), ?_⟩
    walk_at "st"
    have e5 : (10 : Int) ^ (5 : Int).toNat = 100000 := by decide
    rw [e5]
    refine r_ite (fun hx => ?_) (fun hx => ?_)
    · have hx' : n < 100000 := of_decide_eq_true hx
      walk_at "rd"
      refine u_l_draw hv (by omega) (by omega) fun d H1 d0 d1 g1 v1 => ?_
      walk_at "rd"
      exact c _ _ (by omega) (by omega) g1 v1
    · walk_at "rd"
      refine u_l_draw hv (by decide) (by decide) fun d H1 d0 d1 g1 v1 => ?_
      walk_at "rd"
      refine u_l_draw v1 (by decide) (by decide) fun d2 H2 d02 d12 g2 v2 => ?_
      walk_at "rd"
      have m0 := Int.emod_nonneg (d * 64007 + d2) (show (2 * n + 1 : Int) ≠ 0 by omega)
      have m1 := Int.emod_lt_of_pos (d * 64007 + d2) (show (0 : Int) < 2 * n + 1 by omega)
      exact c _ _ (by omega) (by omega) (g1.trans g2) v2
theorem ok_l_size (D : Df K mg "_law_size" st_l_size) (G_l_pick : Pr P w K mg base 2 "_law_pick" ["_law_vat_here", "_law_some"] (sp_l_pick K)) : Pr P w K mg base 3 "_law_size" ["_law_vat_here"] (sp_l_size K) := by
  refine pr_of D sc_l_size ?_ (fun _ _ _ _ _ _ us hl => match us, hl with | [_], _ => rfl) (fun f cdv A outer s H vs Q E hr h => ?_)
  · rintro vs H Q E ⟨a, rfl, _⟩
    rfl
  · obtain ⟨a, rfl, hv, c⟩ := h
    refine ⟨_, (pss_one (ps_ret (pe_c G_l_pick (hr.mono (by decide)) (by rfl) (pa_cons (pv 0) (pa_cons (pe_lst (pa_cons pe_int (pa_cons pe_int (pa_cons pe_int (pa_cons pe_int (pa_cons pe_int (pa_cons pe_int (pa_cons pe_int (pa_cons (pe_op op_pow pe_int pe_int) pa_nil))))))))) pa_nil))))), ?_⟩
    walk_at "st"
    rename_i p H1 n1 e1 h1
    refine u_l_pick (hv.same e1) h1 (new_ne hv n1) (by show 0 < 8; decide) (by show 8 ≤ 1000; decide) fun v H2 hm g2 v2 => ?_
    simp only [List.mem_cons, List.not_mem_nil, or_false] at hm
    rcases hm with rfl | rfl | rfl | rfl | rfl | rfl | rfl | rfl <;> exact c _ _ (by decide) (by decide) (by walk_at "go") v2
theorem ok_l_some_frac (D : Df K mg "_law_some_frac" st_l_some_frac) (T : Txt K mg z0 z1 z2 z4 zu zp zs zb zl) (G_l_frac : Pr P w K mg base 3 "_law_frac" ["_law_top", "_law_deep"] (sp_l_frac K)) (G_l_about : Pr P w K mg base 2 "_law_about" ["_law_vat_here", "_law_wide"] (sp_l_about K)) (G_l_draw : Pr P w K mg base 1 "_law_draw" ["_law_vat_here", "_law_many"] (sp_l_draw K)) (G_l_pick : Pr P w K mg base 2 "_law_pick" ["_law_vat_here", "_law_some"] (sp_l_pick K)) : Pr P w K mg base 4 "_law_some_frac" ["_law_vat_here", "_law_wide"] (sp_l_some_frac K) := by
  refine pr_of D sc_l_some_frac ?_ (fun _ _ _ _ _ _ us hl => match us, hl with | [_, _], _ => rfl) (fun f cdv A outer s H vs Q E hr h => ?_)
  · rintro vs H Q E ⟨a, n, rfl, _⟩
    rfl
  · obtain ⟨a, n, rfl, hv, h0, h1, c⟩ := h
    refine ⟨_, (pss_one (ps_ret (pe_c G_l_frac (hr.mono (by decide)) (by rfl) (pa_cons (pe_c G_l_about (hr.mono (by decide)) (by rfl) (pa_cons (pv 0) (pa_cons (pv 1) pa_nil))) (pa_cons (pe_op op_add pe_int (pe_c G_l_draw (hr.mono (by decide)) (by rfl) (pa_cons (pv 0) (pa_cons (pe_c G_l_pick (hr.mono (by decide)) (by rfl) (pa_cons (pv 0) (pa_cons (pe_lst (pa_cons pe_int (pa_cons pe_int (pa_cons pe_int (pa_cons pe_int (pa_cons pe_int (pa_cons (pe_callB (cl_min rfl) (by rfl) T.n_min b_min (pa_cons (pv 1) (pa_cons (pe_op op_pow pe_int pe_int) pa_nil))) pa_nil))))))) pa_nil))) pa_nil)))) pa_nil))))), ?_⟩
    walk_at "st"
    refine u_l_about hv h0 h1 fun i H1 i0 i1 g1 v1 => ?_
    walk_at "rd"
    rename_i p H2 n2 e2 h2
    refine u_l_pick (v1.same e2) h2 (new_ne v1 n2) (by show 0 < 6; decide) (by show 6 ≤ 1000; decide) fun v H3 hm g3 v3 => ?_
    have hm' : ∃ m : Int, v = .int m ∧ 0 < m ∧ m ≤ 10000 := by
      have e4 : (10 : Int) ^ (4 : Int).toNat = 10000 := by decide
      rw [e4] at hm
      simp only [List.mem_cons, List.not_mem_nil, or_false] at hm
      rcases hm with rfl | rfl | rfl | rfl | rfl | rfl
      · exact ⟨1, rfl, by decide, by decide⟩
      · exact ⟨1, rfl, by decide, by decide⟩
      · exact ⟨2, rfl, by decide, by decide⟩
      · exact ⟨3, rfl, by decide, by decide⟩
      · exact ⟨7, rfl, by decide, by decide⟩
      · exact ⟨_, rfl, by split <;> omega, by split <;> omega⟩
    obtain ⟨m, rfl, m0, m1⟩ := hm'
    walk_at "rd"
    refine u_l_draw v3 m0 (by omega) fun d H4 d0 d1 g4 v4 => ?_
    walk_at "rd"
    have p0 : 0 < 1 + d := by omega
    have bi : Bi 31 i := by unfold Bi; omega
    have bd : Bi 31 (1 + d) := by unfold Bi; omega
    refine u_l_frac p0 bi bd (by decide) (by decide) fun u H5 e5 h5 => ?_
    exact c _ _ _ h5 (Bd.of p0 bi bd) (by walk_at "go") (by walk_at "va")
theorem ok_l_above (D : Df K mg "_law_above" st_l_above) (T : Txt K mg z0 z1 z2 z4 zu zp zs zb zl) (G_l_frac : Pr P w K mg base 3 "_law_frac" ["_law_top", "_law_deep"] (sp_l_frac K)) (G_l_draw : Pr P w K mg base 1 "_law_draw" ["_law_vat_here", "_law_many"] (sp_l_draw K)) (G_l_about : Pr P w K mg base 2 "_law_about" ["_law_vat_here", "_law_wide"] (sp_l_about K)) (G_l_pick : Pr P w K mg base 2 "_law_pick" ["_law_vat_here", "_law_some"] (sp_l_pick K)) : Pr P w K mg base 4 "_law_above" ["_law_vat_here", "_law_wide"] (sp_l_above K) := by
  refine pr_of D sc_l_above ?_ (fun _ _ _ _ _ _ us hl => match us, hl with | [_, _], _ => rfl) (fun f cdv A outer s H vs Q E hr h => ?_)
  · rintro vs H Q E ⟨a, n, rfl, _⟩
    rfl
  · obtain ⟨a, n, rfl, hv, h0, h1, c⟩ := h
    refine ⟨_, (pss_one (ps_ret (pe_c G_l_frac (hr.mono (by decide)) (by rfl) (pa_cons (pe_op op_add pe_int (pe_callB cl_abs (by rfl) T.n_abs b_abs (pa_cons (pe_c G_l_about (hr.mono (by decide)) (by rfl) (pa_cons (pv 0) (pa_cons (pv 1) pa_nil))) pa_nil))) (pa_cons (pe_op op_add pe_int (pe_c G_l_draw (hr.mono (by decide)) (by rfl) (pa_cons (pv 0) (pa_cons (pe_c G_l_pick (hr.mono (by decide)) (by rfl) (pa_cons (pv 0) (pa_cons (pe_lst (pa_cons pe_int (pa_cons pe_int (pa_cons pe_int (pa_cons pe_int (pa_cons pe_int pa_nil)))))) pa_nil))) pa_nil)))) pa_nil))))), ?_⟩
    walk_at "st"
    refine u_l_about hv h0 h1 fun i H1 i0 i1 g1 v1 => ?_
    walk_at "rd"
    rename_i p H2 n2 e2 h2
    refine u_l_pick (v1.same e2) h2 (new_ne v1 n2) (by show 0 < 5; decide) (by show 5 ≤ 1000; decide) fun v H3 hm g3 v3 => ?_
    have hm' : ∃ m : Int, v = .int m ∧ 0 < m ∧ m ≤ 10000 := by
      simp only [List.mem_cons, List.not_mem_nil, or_false] at hm
      rcases hm with rfl | rfl | rfl | rfl | rfl <;> exact ⟨_, rfl, by decide, by decide⟩
    obtain ⟨m, rfl, m0, m1⟩ := hm'
    walk_at "rd"
    refine u_l_draw v3 m0 (by omega) fun d H4 d0 d1 g4 v4 => ?_
    walk_at "rd"
    have p0 : 0 < 1 + d := by omega
    have i0' : 0 < 1 + ((i.natAbs : Nat) : Int) := by omega
    have bi : Bi 31 (1 + ((i.natAbs : Nat) : Int)) := by unfold Bi; omega
    have bd : Bi 31 (1 + d) := by unfold Bi; omega
    refine u_l_frac p0 bi bd (by decide) (by decide) fun u H5 e5 h5 => ?_
    exact c _ _ _ h5 (divInt_pos i0' p0) (Bd.of p0 bi bd) (by walk_at "go") (by walk_at "va")
theorem ok_l_place (D : Df K mg "_law_place" st_l_place) (G_l_spot : Pr P w K mg base 3 "_law_spot" ["_law_x", "_law_y"] (sp_l_spot K)) (G_l_above : Pr P w K mg base 4 "_law_above" ["_law_vat_here", "_law_wide"] (sp_l_above K)) (G_l_some_frac : Pr P w K mg base 4 "_law_some_frac" ["_law_vat_here", "_law_wide"] (sp_l_some_frac K)) : Pr P w K mg base 5 "_law_place" ["_law_vat_here", "_law_wide"] (sp_l_place K) := by
  refine pr_of D sc_l_place ?_ (fun _ _ _ _ _ _ us hl => match us, hl with | [_, _], _ => rfl) (fun f cdv A outer s H vs Q E hr h => ?_)
  · rintro vs H Q E ⟨a, n, rfl, _⟩
    rfl
  · obtain ⟨a, n, rfl, hv, h0, h1, c⟩ := h
    refine ⟨_, (pss_one (ps_ret (pe_c G_l_spot (hr.mono (by decide)) (by rfl) (pa_cons (pe_c G_l_above (hr.mono (by decide)) (by rfl) (pa_cons (pv 0) (pa_cons (pv 1) pa_nil))) (pa_cons (pe_c G_l_some_frac (hr.mono (by decide)) (by rfl) (pa_cons (pv 0) (pa_cons (pv 1) pa_nil))) pa_nil))))), ?_⟩
    walk_at "st"
    refine u_l_above hv h0 h1 fun x p H1 hx p0 bp g1 v1 => ?_
    walk_at "rd"
    refine u_l_some_frac v1 h0 h1 fun y q H2 hy bq g2 v2 => ?_
    walk_at "rd"
    refine u_l_spot (by walk_at "fa") hy bp bq (by decide) p0 fun v H3 x y w e3 h3 => ?_
    exact c _ _ _ _ _ h3 (by walk_at "go") (by walk_at "va")
theorem ok_l_jet (D : Df K mg "_law_jet" st_l_jet) (G_l_size : Pr P w K mg base 3 "_law_size" ["_law_vat_here"] (sp_l_size K)) (G_l_some_frac : Pr P w K mg base 4 "_law_some_frac" ["_law_vat_here", "_law_wide"] (sp_l_some_frac K)) (G_l_above : Pr P w K mg base 4 "_law_above" ["_law_vat_here", "_law_wide"] (sp_l_above K)) (G_l_pick : Pr P w K mg base 2 "_law_pick" ["_law_vat_here", "_law_some"] (sp_l_pick K)) : Pr P w K mg base 5 "_law_jet" ["_law_vat_here"] (sp_l_jet K) := by
  refine pr_of D sc_l_jet ?_ (fun _ _ _ _ _ _ us hl => match us, hl with | [_], _ => rfl) (fun f cdv A outer s H vs Q E hr h => ?_)
  · rintro vs H Q E ⟨a, rfl, _⟩
    rfl
  · obtain ⟨a, rfl, hv, c⟩ := h
    refine ⟨_, (pss_cons (ps_set (i := 1) sc_l_jet.nd rfl (by first | exact Or.inl rfl | exact Or.inr rfl) (pe_c G_l_size (hr.mono (by decide)) (by rfl) (pa_cons (pv 0) pa_nil))) (pss_one (ps_ret (pe_tup (pa_cons (pe_c G_l_some_frac (hr.mono (by decide)) (by rfl) (pa_cons (pv 0) (pa_cons (pv 1) pa_nil))) (pa_cons (pe_c G_l_above (hr.mono (by decide)) (by rfl) (pa_cons (pv 0) (pa_cons (pe_c G_l_pick (hr.mono (by decide)) (by rfl) (pa_cons (pv 0) (pa_cons (pe_lst (pa_cons pe_int (pa_cons pe_int (pa_cons pe_int (pa_cons (pv 1) pa_nil))))) pa_nil))) pa_nil))) pa_nil)))))), ?_⟩
    walk_at "st"
    refine u_l_size hv fun n H1 n0 n1 g1 v1 => ?_
    walk_at "rd"
    refine u_l_some_frac v1 n0 n1 fun x s H2 hx bs g2 v2 => ?_
    walk_at "rd"
    rename_i p H3 n3 e3 h3
    refine u_l_pick (v2.same e3) h3 (new_ne v2 n3) (by show 0 < 4; decide) (by show 4 ≤ 1000; decide) fun v H4 hm g4 v4 => ?_
    have hm' : ∃ m : Int, v = .int m ∧ 0 < m ∧ m ≤ 1000000000 := by
      simp only [List.mem_cons, List.not_mem_nil, or_false] at hm
      rcases hm with rfl | rfl | rfl | rfl
      · exact ⟨1, rfl, by decide, by decide⟩
      · exact ⟨2, rfl, by decide, by decide⟩
      · exact ⟨9, rfl, by decide, by decide⟩
      · exact ⟨n, rfl, n0, n1⟩
    obtain ⟨m, rfl, m0, m1⟩ := hm'
    walk_at "rd"
    have v3 := v2.same e3
    refine u_l_above v4 m0 m1 fun y b H5 hy b0 bb g5 v5 => ?_
    walk_at "rd"
    exact c _ _ _ _ ⟨_, _, by walk_at "fa", by walk_at "fa", by walk_at "fa"⟩ b0 bs bb (by walk_at "go") (by walk_at "va")
end
end K17
/-! Asks drawn. -/
namespace K17
set_option linter.all false
set_option maxRecDepth 100000
set_option maxHeartbeats 8000000
open PySem PySem.Spec PyProof.Rows L2
def Ask.word : Ask → Str
  | .over _ _ _ => "over"
  | .under _ _ _ => "under"
  | .dives _ _ => "dives"
  | .climbs _ _ => "climbs"
  | .quick _ => "quick"
  | .slow _ => "slow"
def six : List V := [.str "over", .str "under", .str "dives", .str "climbs", .str "quick", .str "slow"]
def sp_l_ask (K : PySem.W.Frag) : Sp := fun vs H Q _ => ∃ (a l : Addr) (n : Int) (ws : List V), vs = [.ref a, .ref l, .int n] ∧ VatAt H a ∧ H l = some (.lst ws) ∧ l ≠ a ∧ 0 < ws.length ∧ ws.length ≤ 1000 ∧ (∀ v ∈ ws, v ∈ six) ∧ 0 < n ∧ n ≤ 1000000000 ∧
  ∀ v k H', AskAt K H' v k → k.ok 300 → V.str k.word ∈ ws → Go a H H' → VatAt H' a → Q v H'
def sp_l_near_ask (K : PySem.W.Frag) : Sp := fun vs H Q _ => ∃ (a l : Addr) (j : V) (s b : Rat) (ws : List V), vs = [.ref a, j, .ref l] ∧ VatAt H a ∧ JetAt K H j s b ∧ 0 < b ∧ Bd 31 s ∧ Bd 31 b ∧ H l = some (.lst ws) ∧ l ≠ a ∧ 0 < ws.length ∧ ws.length ≤ 1000 ∧ (∀ v ∈ ws, v ∈ six) ∧
  ∀ v k H', AskAt K H' v k → k.ok 300 → V.str k.word ∈ ws → Go a H H' → VatAt H' a → Q v H'
def sp_l_asks (K : PySem.W.Frag) : Sp := fun vs H Q _ => ∃ (a l : Addr) (j : V) (s b : Rat) (ws : List V), vs = [.ref a, j, .ref l, .int 8] ∧ VatAt H a ∧ JetAt K H j s b ∧ 0 < b ∧ Bd 31 s ∧ Bd 31 b ∧ H l = some (.lst ws) ∧ l ≠ a ∧ 0 < ws.length ∧ ws.length ≤ 1000 ∧ (∀ v ∈ ws, v ∈ six) ∧
  ∀ v ks H', Tuple K H' v ks → (∀ k ∈ ks, k.ok 300) → ks.length ≤ 8 → Go a H H' → VatAt H' a → Q v H'
section
variable {K : PySem.W.Frag} {H : Hp} {Q : VK} {E : XK} {a l : Addr} {n : Int} {ws : List V} {j : V} {s b : Rat}
theorem u_l_ask (v : VatAt H a) (h : H l = some (.lst ws)) (ne : l ≠ a) (h0 : 0 < ws.length) (h1 : ws.length ≤ 1000) (h6 : ∀ v ∈ ws, v ∈ six) (n0 : 0 < n) (n1 : n ≤ 1000000000) (k : ∀ v k H', AskAt K H' v k → k.ok 300 → V.str k.word ∈ ws → Go a H H' → VatAt H' a → Q v H') :
    sp_l_ask K ([.ref a, .ref l, .int n] ++ []) H Q E := ⟨a, l, n, ws, rfl, v, h, ne, h0, h1, h6, n0, n1, k⟩
theorem u_l_near_ask (v : VatAt H a) (hj : JetAt K H j s b) (b0 : 0 < b) (bs : Bd 31 s) (bb : Bd 31 b) (h : H l = some (.lst ws)) (ne : l ≠ a) (h0 : 0 < ws.length) (h1 : ws.length ≤ 1000) (h6 : ∀ v ∈ ws, v ∈ six) (k : ∀ v k H', AskAt K H' v k → k.ok 300 → V.str k.word ∈ ws → Go a H H' → VatAt H' a → Q v H') :
    sp_l_near_ask K ([.ref a, j, .ref l] ++ []) H Q E := ⟨a, l, j, s, b, ws, rfl, v, hj, b0, bs, bb, h, ne, h0, h1, h6, k⟩
theorem u_l_asks (v : VatAt H a) (hj : JetAt K H j s b) (b0 : 0 < b) (bs : Bd 31 s) (bb : Bd 31 b) (h : H l = some (.lst ws)) (ne : l ≠ a) (h0 : 0 < ws.length) (h1 : ws.length ≤ 1000) (h6 : ∀ v ∈ ws, v ∈ six) (k : ∀ v ks H', Tuple K H' v ks → (∀ k ∈ ks, k.ok 300) → ks.length ≤ 8 → Go a H H' → VatAt H' a → Q v H') :
    sp_l_asks K ([.ref a, j, .ref l, .int 8] ++ []) H Q E := ⟨a, l, j, s, b, ws, rfl, v, hj, b0, bs, bb, h, ne, h0, h1, h6, k⟩
theorem six_cases {v : V} (h : v ∈ six) : v = .str "over" ∨ v = .str "under" ∨ v = .str "dives" ∨ v = .str "climbs" ∨ v = .str "quick" ∨ v = .str "slow" := by
  unfold six at h
  simpa only [List.mem_cons, List.not_mem_nil, or_false] using h
theorem bi_mono {B : Nat} {x y w : Int} (h : PlAt K H j x y w) : Pl x y w ∧ Bi 300 x ∧ Bi 300 y ∧ Bi 300 w := h.2
theorem le_of_pos {q : Rat} (h : 0 < q) : 0 ≤ q := Rat.le_of_lt h
end
local macro_rules | `(tactic| walk_at "bd") => `(tactic| first
  | with_reducible assumption
  | exact Bd.zero | exact Bd.one | exact Bd.two | exact Bd.four
  | ((with_reducible apply Bd.add) <;> walk_at "bd")
  | ((with_reducible apply Bd.sub) <;> walk_at "bd")
  | ((with_reducible apply Bd.mul) <;> walk_at "bd")
  | ((with_reducible apply Bd.div); (· walk_at "bd"); (· walk_at "bd"); (· walk_at "po"))
  | ((with_reducible apply Bd.neg) <;> walk_at "bd"))
local macro_rules | `(tactic| walk_at "bi") => `(tactic| first
  | with_reducible assumption
  | ((with_reducible apply Bd.bn) <;> walk_at "bd")
  | ((with_reducible apply Bd.bd) <;> walk_at "bd")
  | ((with_reducible apply Bi.mul) <;> walk_at "bi")
  | ((with_reducible apply Bi.add) <;> walk_at "bi")
  | ((with_reducible apply Bi.sub) <;> walk_at "bi")
  | ((with_reducible apply Bi.neg) <;> walk_at "bi"))
local macro_rules | `(tactic| walk_at "va") => `(tactic| first
  | with_reducible assumption
  | ((with_reducible apply VatAt.back); (· with_reducible assumption); walk_at "va"))
local macro_rules | `(tactic| walk_at "nx") => `(tactic| first
  | ((with_reducible apply Nx.of); with_reducible assumption)
  | ((with_reducible apply Nx.gov); (· with_reducible assumption); (· walk_at "va")))
local macro_rules | `(tactic| walk_at "fa") => `(tactic| first
  | with_reducible assumption
  | ((with_reducible apply tp_of); with_reducible assumption)
  | ((with_reducible apply Txt.t_ZERO); with_reducible assumption) | ((with_reducible apply Txt.t_ONE); with_reducible assumption) | ((with_reducible apply Txt.t_TWO); with_reducible assumption) | ((with_reducible apply Txt.t_FOUR); with_reducible assumption) | ((with_reducible apply Txt.t_UNIT); with_reducible assumption) | ((with_reducible apply Txt.t_PLACED); with_reducible assumption) | ((with_reducible apply Txt.t_STEEP); with_reducible assumption) | ((with_reducible apply Txt.t_BENT); with_reducible assumption) | ((with_reducible apply Txt.t_LEAST); with_reducible assumption)
  | ((with_reducible apply Fr.back); (· walk_at "nx"); walk_at "fa")
  | ((with_reducible apply Tp.back); (· walk_at "nx"); walk_at "fa")
  | ((with_reducible apply JetAt.back); (· walk_at "nx"); walk_at "fa")
  | ((with_reducible apply AskAt.back); (· walk_at "nx"); walk_at "fa"))
local macro_rules | `(tactic| walk_at "sm") => `(tactic| first
  | with_reducible assumption
  | with_reducible exact Same.refl _
  | (apply Same.back; (· with_reducible assumption); walk_at "sm"))
local macro_rules | `(tactic| walk_at "ls") => `(tactic| first
  | with_reducible assumption
  | ((with_reducible apply ls_back); (· with_reducible assumption); walk_at "ls"))
local macro_rules | `(tactic| walk_at "go") => `(tactic| first
  | with_reducible assumption
  | with_reducible exact Go.refl _
  | ((with_reducible apply Go.of); with_reducible assumption)
  | ((with_reducible apply Go.backS); (· with_reducible assumption); walk_at "go")
  | ((with_reducible apply Go.back); (· with_reducible assumption); walk_at "go"))
local macro_rules | `(tactic| walk_at "lg") => `(tactic| first
  | with_reducible assumption
  | ((with_reducible apply ls_back); (· with_reducible assumption); walk_at "lg")
  | ((with_reducible apply ls_go); (· with_reducible assumption); (· with_reducible assumption); walk_at "lg"))
local macro_rules | `(tactic| walk_at "sq") => `(tactic| first
  | with_reducible assumption
  | ((with_reducible apply SqL.of); walk_at "lg")
  | ((with_reducible apply sq_back); (· with_reducible assumption); walk_at "sq"))
local macro_rules | `(tactic| walk_at "fx") => `(tactic| first
  | walk_at "fa"
  | ((with_reducible apply Fr.tp); walk_at "fa"))
local macro_rules | `(tactic| walk_at "rd1") => `(tactic| first
  | with_reducible refine r_ret ?_ | with_reducible refine r_seq ?_ | with_reducible refine r_asg ?_ | with_reducible refine r_drop ?_ | with_reducible refine r_ifS ?_ | with_reducible refine r_par ?_ | with_reducible refine r_next ?_
  | with_reducible refine r_name ?_ | with_reducible refine r_gcons ?_ | with_reducible refine r_gnil ?_
  | ((with_reducible apply r_var); (· rfl))
  | with_reducible refine r_c ?_ | with_reducible refine r_op ?_ | with_reducible refine r_un ?_ | with_reducible refine r_call ?_ | with_reducible refine r_cb ?_ | with_reducible refine r_cons ?_ | with_reducible refine r_nil ?_
  | with_reducible refine r_tup ?_ | with_reducible refine r_lst ?_ | with_reducible refine r_if ?_ | with_reducible refine r_test ?_ | with_reducible refine r_B ?_ | with_reducible refine r_and ?_ | with_reducible refine r_or ?_ | with_reducible refine r_not ?_
  | with_reducible refine r_for ?_ | with_reducible refine r_iTup ?_ | with_reducible refine r_iList ?_ | with_reducible refine r_iEnumT ?_ | with_reducible refine r_iRng1 ?_ | with_reducible refine r_lcT ?_ | with_reducible refine r_lcL ?_ | with_reducible refine r_lcR ?_
  | with_reducible refine r_andV ?_ | with_reducible refine r_orV ?_ | with_reducible refine r_notV ?_ | with_reducible refine r_bl ?_
  | with_reducible refine r_I0 ?_ | with_reducible refine r_U ?_ | with_reducible refine r_par2 ?_
  | ((with_reducible refine r_eq ?_ ?_); (· rfl)) | ((with_reducible refine r_ne ?_ ?_); (· rfl))
  | ((with_reducible apply r_ixT); (· walk_at "fx"); (· first | rfl | exact atI_zero _ _))
  | ((with_reducible apply r_gtup); (· walk_at "fx"); (· rfl))
  | ((with_reducible apply r_mulW); (· walk_at "bi"); (· walk_at "bi"); (· first | omega | decide))
  | ((with_reducible apply r_isi_tt); (· walk_at "fx")) | with_reducible refine r_isi_ii ?_ | with_reducible refine r_isi_ib ?_ | with_reducible refine r_isi_ss ?_
  | with_reducible refine r_isNon ?_ | with_reducible refine r_isBl ?_
  | ((with_reducible apply r_lenT); (· walk_at "fx")) | with_reducible refine r_abs ?_ | with_reducible refine r_max ?_ | with_reducible refine r_min ?_ | with_reducible refine r_int ?_
  | ((with_reducible apply r_inT); (· walk_at "fx"); (· rfl); (· rfl)) | ((with_reducible apply r_niT); (· walk_at "fx"); (· rfl); (· rfl))
  | ((with_reducible apply r_inL); (· walk_at "ls"); (· rfl); (· rfl))
  | ((with_reducible apply r_tupOfL); (· walk_at "ls"); intro _ _ _ _ _)
  | ((with_reducible refine r_newT ?_ ?_); (· exact Nat.le_of_ble_eq_true rfl); intro _ _ _ _ _)
  | ((with_reducible refine r_newL ?_ ?_); (· exact Nat.le_of_ble_eq_true rfl); intro _ _ _ _ _)
  | ((with_reducible refine r_T ?_ ?_); (· first | rfl | with_reducible assumption))
  | ((with_reducible refine r_F ?_ ?_); (· first | rfl | with_reducible assumption)))
local macro_rules | `(tactic| walk_at "po") => `(tactic| first
  | with_reducible assumption
  | ((with_reducible apply Rat.mul_pos) <;> walk_at "po")
  | exact two_pos | exact four_pos)
local macro_rules | `(tactic| walk_at "sz") => `(tactic| first | omega | decide)
local macro_rules | `(tactic| walk_at "rd1") => `(tactic| first
  | ((with_reducible apply u_ratio_sum); (· walk_at "fa"); (· walk_at "fa"); (· walk_at "bd"); (· walk_at "bd"); (· walk_at "sz"); intro _ _ _ _)
  | ((with_reducible apply u_ratio_product); (· walk_at "fa"); (· walk_at "fa"); (· walk_at "bd"); (· walk_at "bd"); (· walk_at "sz"); intro _ _ _ _)
  | ((with_reducible apply u_ratio_over); (· walk_at "fa"); (· walk_at "fa"); (· walk_at "bd"); (· walk_at "bd"); (· walk_at "sz"); (· walk_at "po"); intro _ _ _ _)
  | ((with_reducible apply u_is_lower); (· walk_at "fa"); (· walk_at "fa"); (· walk_at "bd"); (· walk_at "bd"); (· walk_at "sz"))
  | ((with_reducible apply u_ratio_back); (· walk_at "fa"); intro _ _ _ _)
  | ((with_reducible apply u_is_ratio); (· walk_at "fa"); intro _ _))
local macro_rules | `(tactic| walk_at "rd1") => `(tactic| first
  | ((with_reducible apply u_l_add); (· walk_at "fa"); (· walk_at "fa"); (· walk_at "bd"); (· walk_at "bd"); (· walk_at "sz"); intro _ _ _ _)
  | ((with_reducible apply u_l_sub); (· walk_at "fa"); (· walk_at "fa"); (· walk_at "bd"); (· walk_at "bd"); (· walk_at "sz"); intro _ _ _ _)
  | ((with_reducible apply u_l_mul); (· walk_at "fa"); (· walk_at "fa"); (· walk_at "bd"); (· walk_at "bd"); (· walk_at "sz"); intro _ _ _ _)
  | ((with_reducible apply u_l_div); (· walk_at "fa"); (· walk_at "fa"); (· walk_at "bd"); (· walk_at "bd"); (· walk_at "sz"); (· walk_at "po"); intro _ _ _ _)
  | ((with_reducible apply u_l_less); (· walk_at "fa"); (· walk_at "fa"); (· walk_at "bd"); (· walk_at "bd"); (· walk_at "sz"))
  | ((with_reducible apply u_l_minus); (· walk_at "fa"); intro _ _ _ _))
local macro_rules | `(tactic| walk_at "rd1") => `(tactic| first
  | with_reducible refine r_sl ?_ | with_reducible refine r_part ?_ | with_reducible refine r_nopart ?_ | with_reducible refine r_some ?_ | with_reducible refine r_gsub ?_
  | ((with_reducible apply r_slL); (· walk_at "sq"); intro _ _ _ _ _)
  | ((with_reducible apply r_mulL); (· first | exact Or.inl (by decide) | exact Or.inr (by decide)))
  | ((with_reducible apply r_powL); (· exact ⟨by decide, by decide, by decide⟩))
  | ((with_reducible apply r_lenL); (· walk_at "sq"))
  | ((with_reducible apply r_ixL); (· walk_at "sq"); (· rfl))
  | ((with_reducible apply r_mod); (· first | with_reducible assumption | decide | omega))
  | ((with_reducible apply r_setL); (· walk_at "lg"); (· rfl); intro _ _ _)
  | ((with_reducible apply r_cat); (· walk_at "ls"); (· walk_at "ls"); (· first | omega | exact Nat.le_of_ble_eq_true rfl); intro _ _ _ _ _))
local macro_rules | `(tactic| walk_at "rd") => `(tactic| repeat walk_at "rd1")
local macro_rules | `(tactic| walk_at "st") => `(tactic| ((try simp only [cx_K]); walk_at "rd"))

section
variable {P : Program} {w : World} {K : PySem.W.Frag} {mg : Str → Option Value} {base : Heap} {z0 z1 z2 z4 zu zp zs zb zl : Addr}
theorem ok_l_ask (D : Df K mg "_law_ask" st_l_ask) (G_l_pick : Pr P w K mg base 2 "_law_pick" ["_law_vat_here", "_law_some"] (sp_l_pick K)) (G_l_place : Pr P w K mg base 5 "_law_place" ["_law_vat_here", "_law_wide"] (sp_l_place K)) (G_l_spot : Pr P w K mg base 3 "_law_spot" ["_law_x", "_law_y"] (sp_l_spot K)) (G_l_add : Pr P w K mg base 4 "_law_add" ["_law_one", "_law_two"] (sp_l_add K)) (G_l_above : Pr P w K mg base 4 "_law_above" ["_law_vat_here", "_law_wide"] (sp_l_above K)) (G_l_some_frac : Pr P w K mg base 4 "_law_some_frac" ["_law_vat_here", "_law_wide"] (sp_l_some_frac K)) (G_l_far : Pr P w K mg base 4 "_law_far" ["_law_place_here"] (sp_l_far K)) (G_l_high : Pr P w K mg base 4 "_law_high" ["_law_place_here"] (sp_l_high K)) : Pr P w K mg base 6 "_law_ask" ["_law_vat_here", "_law_words", "_law_wide"] (sp_l_ask K) := by
  refine pr_of D sc_l_ask ?_ (fun _ _ _ _ _ _ us hl => match us, hl with | [_, _, _], _ => rfl) (fun f cdv A outer s H vs Q E hr h => ?_)
  · rintro vs H Q E ⟨a, l, n, ws, rfl, _⟩
    rfl
  · obtain ⟨a, l, n, ws, rfl, hv, hl, ne, w0, w1, h6, n0, n1, c⟩ := h
    refine ⟨_, (pss_cons (ps_set (i := 3) sc_l_ask.nd rfl (by first | exact Or.inl rfl | exact Or.inr rfl) (pe_c G_l_pick (hr.mono (by decide)) (by rfl) (pa_cons (pv 0) (pa_cons (pv 1) pa_nil)))) (pss_cons (ps_if (pt_cmpR op_in_seq (pv 3) (pe_lst (pa_cons pe_str (pa_cons pe_str pa_nil))) (by rfl)) (pss_one (ps_ret (pe_tup (pa_cons (pv 3) (pa_cons (pe_c G_l_place (hr.mono (by decide)) (by rfl) (pa_cons (pv 0) (pa_cons (pv 2) pa_nil))) pa_nil))))) pss_nil) (pss_cons (ps_if (pt_cmpR op_in_seq (pv 3) (pe_lst (pa_cons pe_str (pa_cons pe_str (pa_cons pe_str pa_nil)))) (by rfl)) (pss_one (ps_ret (pe_tup (pa_cons (pv 3) (pa_cons (pe_c G_l_above (hr.mono (by decide)) (by rfl) (pa_cons (pv 0) (pa_cons (pv 2) pa_nil))) pa_nil))))) pss_nil) (pss_cons (ps_if (pt_cmpR op_in_seq (pv 3) (pe_lst (pa_cons pe_str (pa_cons pe_str pa_nil))) (by rfl)) (pss_one (ps_ret (pe_tup (pa_cons (pv 3) (pa_cons (pe_c G_l_pick (hr.mono (by decide)) (by rfl) (pa_cons (pv 0) (pa_cons (pe_lst (pa_cons (pe_tup (pa_cons pe_int (pa_cons pe_int pa_nil))) (pa_cons (pe_c G_l_above (hr.mono (by decide)) (by rfl) (pa_cons (pv 0) (pa_cons (pv 2) pa_nil))) (pa_cons (pe_c G_l_above (hr.mono (by decide)) (by rfl) (pa_cons (pv 0) (pa_cons pe_int pa_nil))) pa_nil)))) pa_nil))) (pa_cons (pe_c G_l_some_frac (hr.mono (by decide)) (by rfl) (pa_cons (pv 0) (pa_cons (pv 2) pa_nil))) pa_nil)))))) pss_nil) pss_never)))), ?_⟩
    walk_at "st"
    refine u_l_pick hv hl ne w0 w1 fun v H1 hm g1 v1 => ?_
    rcases six_cases (h6 v hm) with rfl | rfl | rfl | rfl | rfl | rfl
    · walk_at "rd"
      refine u_l_place (by walk_at "va") n0 n1 fun u x y w' H2 hp g2 v2 => ?_
      have ht := hp.1
      walk_at "rd"
      exact c _ (.over x y w') _ ⟨_, by walk_at "fa", by walk_at "fa"⟩ hp.2 hm (by walk_at "go") (by walk_at "va")
    · walk_at "rd"
      refine u_l_place (by walk_at "va") n0 n1 fun u x y w' H2 hp g2 v2 => ?_
      have ht := hp.1
      walk_at "rd"
      exact c _ (.under x y w') _ ⟨_, by walk_at "fa", by walk_at "fa"⟩ hp.2 hm (by walk_at "go") (by walk_at "va")
    · walk_at "rd"
      rename_i p2 H2 n2 e2 h2
      have f2 : Fr K H2 (.ref p2) 0 := fr_lit h2 rfl rfl
      refine u_l_above (by walk_at "va") n0 n1 fun u3 q3 H3 hq3 q03 bq3 g3 v3 => ?_
      walk_at "rd"
      refine u_l_above (by walk_at "va") (by decide) (by decide) fun u4 q4 H4 hq4 q04 bq4 g4 v4 => ?_
      walk_at "rd"
      rename_i p5 H5 n5 e5 h5
      have v5 : VatAt H5 a := by walk_at "va"
      refine u_l_pick v5 h5 (new_ne v4 n5) (by show 0 < 3; decide) (by show 3 ≤ 1000; decide) fun u H6 hu g6 v6 => ?_
      have hu' : ∃ q, Fr K H6 u q ∧ 0 ≤ q ∧ Bd 31 q := by
        simp only [List.mem_cons, List.not_mem_nil, or_false] at hu
        rcases hu with rfl | rfl | rfl
        · exact ⟨0, by walk_at "fa", Rat.le_refl, Bd.zero.mono (by decide)⟩
        · exact ⟨q3, by walk_at "fa", le_of_pos q03, bq3⟩
        · exact ⟨q4, by walk_at "fa", le_of_pos q04, bq4⟩
      obtain ⟨q, hq, q0, bq⟩ := hu'
      walk_at "rd"
      refine u_l_some_frac v6 n0 n1 fun um m H7 hm7 bm g7 v7 => ?_
      walk_at "rd"
      exact c _ (.dives q m) _ ⟨_, _, by walk_at "fa", by walk_at "fa", by walk_at "fa"⟩ ⟨q0, bq.mono (by decide), bm.mono (by decide)⟩ hm (by walk_at "go") (by walk_at "va")
    · walk_at "rd"
      rename_i p2 H2 n2 e2 h2
      have f2 : Fr K H2 (.ref p2) 0 := fr_lit h2 rfl rfl
      refine u_l_above (by walk_at "va") n0 n1 fun u3 q3 H3 hq3 q03 bq3 g3 v3 => ?_
      walk_at "rd"
      refine u_l_above (by walk_at "va") (by decide) (by decide) fun u4 q4 H4 hq4 q04 bq4 g4 v4 => ?_
      walk_at "rd"
      rename_i p5 H5 n5 e5 h5
      have v5 : VatAt H5 a := by walk_at "va"
      refine u_l_pick v5 h5 (new_ne v4 n5) (by show 0 < 3; decide) (by show 3 ≤ 1000; decide) fun u H6 hu g6 v6 => ?_
      have hu' : ∃ q, Fr K H6 u q ∧ 0 ≤ q ∧ Bd 31 q := by
        simp only [List.mem_cons, List.not_mem_nil, or_false] at hu
        rcases hu with rfl | rfl | rfl
        · exact ⟨0, by walk_at "fa", Rat.le_refl, Bd.zero.mono (by decide)⟩
        · exact ⟨q3, by walk_at "fa", le_of_pos q03, bq3⟩
        · exact ⟨q4, by walk_at "fa", le_of_pos q04, bq4⟩
      obtain ⟨q, hq, q0, bq⟩ := hu'
      walk_at "rd"
      refine u_l_some_frac v6 n0 n1 fun um m H7 hm7 bm g7 v7 => ?_
      walk_at "rd"
      exact c _ (.climbs q m) _ ⟨_, _, by walk_at "fa", by walk_at "fa", by walk_at "fa"⟩ ⟨q0, bq.mono (by decide), bm.mono (by decide)⟩ hm (by walk_at "go") (by walk_at "va")
    · walk_at "rd"
      refine u_l_above (by walk_at "va") n0 n1 fun u q H2 hq q0 bq g2 v2 => ?_
      walk_at "rd"
      exact c _ (.quick q) _ ⟨_, by walk_at "fa", by walk_at "fa"⟩ ⟨q0, bq.mono (by decide)⟩ hm (by walk_at "go") (by walk_at "va")
    · walk_at "rd"
      refine u_l_above (by walk_at "va") n0 n1 fun u q H2 hq q0 bq g2 v2 => ?_
      walk_at "rd"
      exact c _ (.slow q) _ ⟨_, by walk_at "fa", by walk_at "fa"⟩ ⟨q0, bq.mono (by decide)⟩ hm (by walk_at "go") (by walk_at "va")
theorem ok_l_near_ask (D : Df K mg "_law_near_ask" st_l_near_ask) (G_l_add : Pr P w K mg base 4 "_law_add" ["_law_one", "_law_two"] (sp_l_add K)) (G_l_pick : Pr P w K mg base 2 "_law_pick" ["_law_vat_here", "_law_some"] (sp_l_pick K)) (G_l_above : Pr P w K mg base 4 "_law_above" ["_law_vat_here", "_law_wide"] (sp_l_above K)) (G_l_rise : Pr P w K mg base 5 "_law_rise" ["_law_jet_here", "_law_distance"] (sp_l_rise K)) (G_l_spot : Pr P w K mg base 3 "_law_spot" ["_law_x", "_law_y"] (sp_l_spot K)) (G_l_div : Pr P w K mg base 4 "_law_div" ["_law_one", "_law_two"] (sp_l_div K)) (G_l_mul : Pr P w K mg base 4 "_law_mul" ["_law_one", "_law_two"] (sp_l_mul K)) (G_l_at : Pr P w K mg base 5 "_law_at" ["_law_jet_here", "_law_distance"] (sp_l_at K)) (G_l_some_frac : Pr P w K mg base 4 "_law_some_frac" ["_law_vat_here", "_law_wide"] (sp_l_some_frac K)) (G_l_sub : Pr P w K mg base 4 "_law_sub" ["_law_one", "_law_two"] (sp_l_sub K)) : Pr P w K mg base 6 "_law_near_ask" ["_law_vat_here", "_law_jet_here", "_law_words"] (sp_l_near_ask K) := by
  refine pr_of D sc_l_near_ask ?_ (fun _ _ _ _ _ _ us hl => match us, hl with | [_, _, _], _ => rfl) (fun f cdv A outer s H vs Q E hr h => ?_)
  · rintro vs H Q E ⟨a, l, j, s, b, ws, rfl, _⟩
    rfl
  · obtain ⟨a, l, j, s, b, ws, rfl, hv, hj, b0, bs, bb, hl, ne, w0, w1, h6, c⟩ := h
    obtain ⟨js, jb, hjt, hjs, hjb⟩ := id hj
    refine ⟨_, (pss_cons (ps_par (by rfl) sc_l_near_ask.nd (i := 6) (j := 7) rfl rfl (by decide) rfl rfl (pa_cons (pe_c G_l_pick (hr.mono (by decide)) (by rfl) (pa_cons (pv 0) (pa_cons (pv 2) pa_nil))) (pa_cons (pe_c G_l_pick (hr.mono (by decide)) (by rfl) (pa_cons (pv 0) (pa_cons (pe_lst (pa_cons pe_int (pa_cons pe_int (pa_cons pe_int pa_nil)))) pa_nil))) pa_nil)) (by rfl)) (pss_cons (ps_par (by rfl) sc_l_near_ask.nd (i := 8) (j := 9) rfl rfl (by decide) rfl rfl (pa_cons (pe_c G_l_above (hr.mono (by decide)) (by rfl) (pa_cons (pv 0) (pa_cons (pv 7) pa_nil))) (pa_cons (pe_c G_l_pick (hr.mono (by decide)) (by rfl) (pa_cons (pv 0) (pa_cons (pe_lst (pa_cons (pe_tup (pa_cons pe_int (pa_cons pe_int pa_nil))) (pa_cons (pe_tup (pa_cons pe_int (pa_cons pe_int pa_nil))) (pa_cons (pe_tup (pa_cons pe_int (pa_cons pe_int pa_nil))) (pa_cons (pe_tup (pa_cons (pe_un un_neg pe_int) (pa_cons pe_int pa_nil))) (pa_cons (pe_c G_l_some_frac (hr.mono (by decide)) (by rfl) (pa_cons (pv 0) (pa_cons (pv 7) pa_nil))) pa_nil)))))) pa_nil))) pa_nil)) (by rfl)) (pss_cons (ps_if (pt_cmpR op_in_seq (pv 6) (pe_lst (pa_cons pe_str (pa_cons pe_str pa_nil))) (by rfl)) (pss_one (ps_ret (pe_tup (pa_cons (pv 6) (pa_cons (pe_c G_l_spot (hr.mono (by decide)) (by rfl) (pa_cons (pv 8) (pa_cons (pe_c G_l_add (hr.mono (by decide)) (by rfl) (pa_cons (pe_c G_l_at (hr.mono (by decide)) (by rfl) (pa_cons (pv 1) (pa_cons (pv 8) pa_nil))) (pa_cons (pv 9) pa_nil))) pa_nil))) pa_nil))))) pss_nil) (pss_cons (ps_if (pt_cmpR op_in_seq (pv 6) (pe_lst (pa_cons pe_str (pa_cons pe_str pa_nil))) (by rfl)) (pss_cons (ps_set (i := 10) sc_l_near_ask.nd rfl (by first | exact Or.inl rfl | exact Or.inr rfl) (pe_c G_l_pick (hr.mono (by decide)) (by rfl) (pa_cons (pv 0) (pa_cons (pe_lst (pa_cons (pv 8) (pa_cons (pe_tup (pa_cons pe_int (pa_cons pe_int pa_nil))) pa_nil))) pa_nil)))) (pss_one (ps_ret (pe_tup (pa_cons (pv 6) (pa_cons (pv 10) (pa_cons (pe_c G_l_add (hr.mono (by decide)) (by rfl) (pa_cons (pe_c G_l_rise (hr.mono (by decide)) (by rfl) (pa_cons (pv 1) (pa_cons (pv 10) pa_nil))) (pa_cons (pv 9) pa_nil))) pa_nil))))))) pss_nil) (pss_cons (ps_if (pt_cmpR op_in_seq (pv 6) (pe_lst (pa_cons pe_str (pa_cons pe_str pa_nil))) (by rfl)) (pss_cons (ps_set (i := 11) sc_l_near_ask.nd rfl (by first | exact Or.inl rfl | exact Or.inr rfl) (pe_c G_l_add (hr.mono (by decide)) (by rfl) (pa_cons (pe_ix ix_tup (pv 1) pe_int (fun _ _ => rfl)) (pa_cons (pv 9) pa_nil)))) (pss_one (ps_ret (pe_tup (pa_cons (pv 6) (pa_cons (pe_ifExp (pt_cmpR op_gt (pe_ix ix_tup (pv 11) pe_int (fun _ _ => rfl)) pe_int (nomark _)) (pv 11) (pe_ix ix_tup (pv 1) pe_int (fun _ _ => rfl))) pa_nil)))))) pss_nil) pss_never))))), ?_⟩
    walk_at "st"
    refine u_l_pick hv hl ne w0 w1 fun v H1 hm g1 v1 => ?_
    walk_at "rd"
    rename_i p2 H2 n2 e2 h2
    refine u_l_pick (v1.same e2) h2 (new_ne v1 n2) (by show 0 < 3; decide) (by show 3 ≤ 1000; decide) fun x3 H3 hm3 g3 v3 => ?_
    have hm' : ∃ m : Int, x3 = .int m ∧ 0 < m ∧ m ≤ 1000000000 := by
      simp only [List.mem_cons, List.not_mem_nil, or_false] at hm3
      rcases hm3 with rfl | rfl | rfl <;> exact ⟨_, rfl, by decide, by decide⟩
    obtain ⟨m, rfl, m0, m1⟩ := hm'
    have v2 : VatAt H2 a := v1.same e2
    walk_at "rd"
    refine u_l_above v3 m0 m1 fun uo o H4 ho o0 bo g4 v4 => ?_
    walk_at "rd"
    rename_i pa Ha na ea ha pb Hb nb eb hb pc Hc nc ec hc pd Hd nd ed hd
    have fa : Fr K Ha (.ref pa) 0 := fr_lit ha rfl rfl
    have fb : Fr K Hb (.ref pb) 0 := fr_lit hb rfl rfl
    have fc : Fr K Hc (.ref pc) ⟨1, 7, by decide, by decide⟩ := fr_lit hc rfl rfl
    have fd : Fr K Hd (.ref pd) ⟨-1, 7, by decide, by decide⟩ := fr_lit hd rfl rfl
    refine u_l_some_frac (by walk_at "va") m0 m1 fun ue qe He hqe bqe ge ve => ?_
    walk_at "rd"
    rename_i pf Hf nf ef hf
    have vf : VatAt Hf a := by walk_at "va"
    refine u_l_pick vf hf (new_ne ve nf) (by show 0 < 5; decide) (by show 5 ≤ 1000; decide) fun ug Hg hg gg vg => ?_
    have hu' : ∃ q, Fr K Hg ug q ∧ Bd 31 q := by
      simp only [List.mem_cons, List.not_mem_nil, or_false] at hg
      rcases hg with rfl | rfl | rfl | rfl | rfl
      · exact ⟨0, by walk_at "fa", Bd.zero.mono (by decide)⟩
      · exact ⟨0, by walk_at "fa", Bd.zero.mono (by decide)⟩
      · exact ⟨_, by walk_at "fa", by unfold Bd; decide⟩
      · exact ⟨_, by walk_at "fa", by unfold Bd; decide⟩
      · exact ⟨qe, by walk_at "fa", bqe⟩
    obtain ⟨gap, hgap, bgap⟩ := hu'
    rcases six_cases (h6 v hm) with rfl | rfl | rfl | rfl | rfl | rfl
    · walk_at "rd"
      refine u_l_at (by walk_at "fa") (by walk_at "fa") (bs.mono (by decide)) (bb.mono (by decide)) bo (by decide) fun uh Hh eh hh => ?_
      walk_at "rd"
      refine u_l_spot (by walk_at "fa") (by walk_at "fa") bo (by walk_at "bd") (by decide) o0 fun up Hp' x y w' ep hp => ?_
      have ht := hp.1
      walk_at "rd"
      exact c _ (.over x y w') _ ⟨_, by walk_at "fa", by walk_at "fa"⟩ hp.2 hm (by walk_at "go") (by walk_at "va")
    · walk_at "rd"
      refine u_l_at (by walk_at "fa") (by walk_at "fa") (bs.mono (by decide)) (bb.mono (by decide)) bo (by decide) fun uh Hh eh hh => ?_
      walk_at "rd"
      refine u_l_spot (by walk_at "fa") (by walk_at "fa") bo (by walk_at "bd") (by decide) o0 fun up Hp' x y w' ep hp => ?_
      have ht := hp.1
      walk_at "rd"
      exact c _ (.under x y w') _ ⟨_, by walk_at "fa", by walk_at "fa"⟩ hp.2 hm (by walk_at "go") (by walk_at "va")
    · walk_at "rd"
      rename_i ph Hh nh eh hh pi' Hi ni ei hi
      have fh : Fr K Hh (.ref ph) 0 := fr_lit hh rfl rfl
      have vh : VatAt Hh a := by walk_at "va"
      have vi : VatAt Hi a := by walk_at "va"
      refine u_l_pick vi hi (new_ne vh ni) (by show 0 < 2; decide) (by show 2 ≤ 1000; decide) fun u Hk hu gk vk => ?_
      have hu' : ∃ q, Fr K Hk u q ∧ 0 ≤ q ∧ Bd 31 q := by
        simp only [List.mem_cons, List.not_mem_nil, or_false] at hu
        rcases hu with rfl | rfl
        · exact ⟨o, by walk_at "fa", le_of_pos o0, bo⟩
        · exact ⟨0, by walk_at "fa", Rat.le_refl, Bd.zero.mono (by decide)⟩
      obtain ⟨q, hq, q0, bq⟩ := hu'
      walk_at "rd"
      refine u_l_rise (by walk_at "fa") (by walk_at "fa") (bs.mono (by decide)) (bb.mono (by decide)) bq (by decide) fun ur Hr er hr' => ?_
      have br : Bd 200 (s - 2 * (b * q)) := (Bd.sub bs (Bd.mul Bd.two (Bd.mul bb bq))).mono (by decide)
      walk_at "rd"
      exact c _ (.dives q _) _ ⟨_, _, by walk_at "fa", by walk_at "fa", by walk_at "fa"⟩ ⟨q0, bq.mono (by decide), (Bd.add br bgap).mono (by decide)⟩ hm (by walk_at "go") (by walk_at "va")
    · walk_at "rd"
      rename_i ph Hh nh eh hh pi' Hi ni ei hi
      have fh : Fr K Hh (.ref ph) 0 := fr_lit hh rfl rfl
      have vh : VatAt Hh a := by walk_at "va"
      have vi : VatAt Hi a := by walk_at "va"
      refine u_l_pick vi hi (new_ne vh ni) (by show 0 < 2; decide) (by show 2 ≤ 1000; decide) fun u Hk hu gk vk => ?_
      have hu' : ∃ q, Fr K Hk u q ∧ 0 ≤ q ∧ Bd 31 q := by
        simp only [List.mem_cons, List.not_mem_nil, or_false] at hu
        rcases hu with rfl | rfl
        · exact ⟨o, by walk_at "fa", le_of_pos o0, bo⟩
        · exact ⟨0, by walk_at "fa", Rat.le_refl, Bd.zero.mono (by decide)⟩
      obtain ⟨q, hq, q0, bq⟩ := hu'
      walk_at "rd"
      refine u_l_rise (by walk_at "fa") (by walk_at "fa") (bs.mono (by decide)) (bb.mono (by decide)) bq (by decide) fun ur Hr er hr' => ?_
      have br : Bd 200 (s - 2 * (b * q)) := (Bd.sub bs (Bd.mul Bd.two (Bd.mul bb bq))).mono (by decide)
      walk_at "rd"
      exact c _ (.climbs q _) _ ⟨_, _, by walk_at "fa", by walk_at "fa", by walk_at "fa"⟩ ⟨q0, bq.mono (by decide), (Bd.add br bgap).mono (by decide)⟩ hm (by walk_at "go") (by walk_at "va")
    · walk_at "rd"
      refine r_ite (fun hp => ?_) (fun hp => ?_)
      · have q0 : 0 < b + gap := num_pos.mp (of_decide_eq_true hp)
        walk_at "rd"
        exact c _ (.quick _) _ ⟨_, by walk_at "fa", by walk_at "fa"⟩ ⟨q0, (Bd.add bb bgap).mono (by decide)⟩ hm (by walk_at "go") (by walk_at "va")
      · walk_at "rd"
        exact c _ (.quick b) _ ⟨_, by walk_at "fa", by walk_at "fa"⟩ ⟨b0, bb.mono (by decide)⟩ hm (by walk_at "go") (by walk_at "va")
    · walk_at "rd"
      refine r_ite (fun hp => ?_) (fun hp => ?_)
      · have q0 : 0 < b + gap := num_pos.mp (of_decide_eq_true hp)
        walk_at "rd"
        exact c _ (.slow _) _ ⟨_, by walk_at "fa", by walk_at "fa"⟩ ⟨q0, (Bd.add bb bgap).mono (by decide)⟩ hm (by walk_at "go") (by walk_at "va")
      · walk_at "rd"
        exact c _ (.slow b) _ ⟨_, by walk_at "fa", by walk_at "fa"⟩ ⟨b0, bb.mono (by decide)⟩ hm (by walk_at "go") (by walk_at "va")
end
end K17
/-! Tuples of asks drawn. -/
namespace K17
set_option linter.all false
set_option maxRecDepth 100000
set_option maxHeartbeats 8000000
open PySem PySem.Spec PyProof.Rows L2
theorem asks_snoc {K : PySem.W.Frag} {H : Hp} {us : List V} {ks : List Ask} {v : V} {k : Ask} (h : AsksAt K H us ks) (hv : AskAt K H v k) : AsksAt K H (us ++ [v]) (ks ++ [k]) := by
  obtain ⟨hl, hk⟩ := h
  refine ⟨by rw [List.length_append, List.length_append, hl]; rfl, fun i u e => ?_⟩
  by_cases hi : i < us.length
  · rw [List.getElem?_append_left hi] at e
    obtain ⟨k', e1, e2⟩ := hk i u e
    exact ⟨k', by rw [List.getElem?_append_left (by omega)]; exact e1, e2⟩
  · rw [List.getElem?_append_right (by omega)] at e
    have e0 : i - us.length = 0 := by
      by_cases z : i - us.length = 0
      · exact z
      · rw [List.getElem?_eq_none (by simp only [List.length_singleton]; omega)] at e
        cases e
    rw [e0] at e
    cases e
    exact ⟨k, by rw [List.getElem?_append_right (by omega), ← hl, e0]; rfl, hv⟩
section
variable {K : PySem.W.Frag} {σ : L2.St} {H : Hp} {Q : VK}
theorem r_bm {T : String} {r : V → List V → Hp → VK → Prop} {to : TE} {t : TA} (h : to σ H fun x H1 => tyV K T x H1 ∧ t σ H1 fun xs H2 => r x xs H2 Q) : tBM K T r to t σ H Q := h
theorem r_tyL {A : Prop} {f : Addr} {us : List V} (h : SqL K H f us) (q : A) : tyV K "list" (.ref f) H ∧ A := ⟨.inl ⟨rfl, us, h⟩, q⟩
theorem r_append {f : Addr} {us : List V} {y : V} (h : H f = some (.lst us)) (hl : us.length ≤ 1000) (k : ∀ H', (∀ b o, H b = some o → b ≠ f → H' b = some o) → H' f = some (.lst (us ++ [y])) → Q .non H') : rAppend (.ref f) [y] H Q :=
  ⟨f, us, y, rfl, rfl, h, Nat.lt_of_le_of_lt hl (by decide), k _ (fun b o e n => by rw [upd_ne n]; exact e) upd_same⟩
theorem nx_app {H' : Hp} {f : Addr} {us : List V} (h : H f = some (.lst us)) (e : ∀ b o, H b = some o → b ≠ f → H' b = some o) : Nx H H' := fun b o q n => e b o q fun z => by
  subst z
  rw [h] at q
  exact n _ (Option.some.inj q).symm
end
local macro_rules | `(tactic| walk_at "bd") => `(tactic| first
  | with_reducible assumption
  | exact Bd.zero | exact Bd.one | exact Bd.two | exact Bd.four
  | ((with_reducible apply Bd.add) <;> walk_at "bd")
  | ((with_reducible apply Bd.sub) <;> walk_at "bd")
  | ((with_reducible apply Bd.mul) <;> walk_at "bd")
  | ((with_reducible apply Bd.div); (· walk_at "bd"); (· walk_at "bd"); (· walk_at "po"))
  | ((with_reducible apply Bd.neg) <;> walk_at "bd"))
local macro_rules | `(tactic| walk_at "bi") => `(tactic| first
  | with_reducible assumption
  | ((with_reducible apply Bd.bn) <;> walk_at "bd")
  | ((with_reducible apply Bd.bd) <;> walk_at "bd")
  | ((with_reducible apply Bi.mul) <;> walk_at "bi")
  | ((with_reducible apply Bi.add) <;> walk_at "bi")
  | ((with_reducible apply Bi.sub) <;> walk_at "bi")
  | ((with_reducible apply Bi.neg) <;> walk_at "bi"))
local macro_rules | `(tactic| walk_at "va") => `(tactic| first
  | with_reducible assumption
  | ((with_reducible apply VatAt.back); (· with_reducible assumption); walk_at "va"))
local macro_rules | `(tactic| walk_at "nx") => `(tactic| first
  | ((with_reducible apply Nx.of); with_reducible assumption)
  | ((with_reducible apply Nx.gov); (· with_reducible assumption); (· walk_at "va")))
local macro_rules | `(tactic| walk_at "fa") => `(tactic| first
  | with_reducible assumption
  | ((with_reducible apply tp_of); with_reducible assumption)
  | ((with_reducible apply Txt.t_ZERO); with_reducible assumption) | ((with_reducible apply Txt.t_ONE); with_reducible assumption) | ((with_reducible apply Txt.t_TWO); with_reducible assumption) | ((with_reducible apply Txt.t_FOUR); with_reducible assumption) | ((with_reducible apply Txt.t_UNIT); with_reducible assumption) | ((with_reducible apply Txt.t_PLACED); with_reducible assumption) | ((with_reducible apply Txt.t_STEEP); with_reducible assumption) | ((with_reducible apply Txt.t_BENT); with_reducible assumption) | ((with_reducible apply Txt.t_LEAST); with_reducible assumption)
  | ((with_reducible apply Fr.back); (· walk_at "nx"); walk_at "fa")
  | ((with_reducible apply Tp.back); (· walk_at "nx"); walk_at "fa")
  | ((with_reducible apply JetAt.back); (· walk_at "nx"); walk_at "fa")
  | ((with_reducible apply AskAt.back); (· walk_at "nx"); walk_at "fa"))
local macro_rules | `(tactic| walk_at "sm") => `(tactic| first
  | with_reducible assumption
  | with_reducible exact Same.refl _
  | (apply Same.back; (· with_reducible assumption); walk_at "sm"))
local macro_rules | `(tactic| walk_at "ls") => `(tactic| first
  | with_reducible assumption
  | ((with_reducible apply ls_back); (· with_reducible assumption); walk_at "ls"))
local macro_rules | `(tactic| walk_at "go") => `(tactic| first
  | with_reducible assumption
  | with_reducible exact Go.refl _
  | ((with_reducible apply Go.of); with_reducible assumption)
  | ((with_reducible apply Go.backS); (· with_reducible assumption); walk_at "go")
  | ((with_reducible apply Go.back); (· with_reducible assumption); walk_at "go"))
local macro_rules | `(tactic| walk_at "lg") => `(tactic| first
  | with_reducible assumption
  | ((with_reducible apply ls_back); (· with_reducible assumption); walk_at "lg")
  | ((with_reducible apply ls_go); (· with_reducible assumption); (· with_reducible assumption); walk_at "lg"))
local macro_rules | `(tactic| walk_at "sq") => `(tactic| first
  | with_reducible assumption
  | ((with_reducible apply SqL.of); walk_at "lg")
  | ((with_reducible apply sq_back); (· with_reducible assumption); walk_at "sq"))
local macro_rules | `(tactic| walk_at "fx") => `(tactic| first
  | walk_at "fa"
  | ((with_reducible apply Fr.tp); walk_at "fa"))
local macro_rules | `(tactic| walk_at "rd1") => `(tactic| first
  | with_reducible refine r_ret ?_ | with_reducible refine r_seq ?_ | with_reducible refine r_asg ?_ | with_reducible refine r_drop ?_ | with_reducible refine r_ifS ?_ | with_reducible refine r_par ?_ | with_reducible refine r_next ?_
  | with_reducible refine r_name ?_ | with_reducible refine r_gcons ?_ | with_reducible refine r_gnil ?_
  | ((with_reducible apply r_var); (· rfl))
  | with_reducible refine r_c ?_ | with_reducible refine r_op ?_ | with_reducible refine r_un ?_ | with_reducible refine r_call ?_ | with_reducible refine r_cb ?_ | with_reducible refine r_cons ?_ | with_reducible refine r_nil ?_
  | with_reducible refine r_tup ?_ | with_reducible refine r_lst ?_ | with_reducible refine r_if ?_ | with_reducible refine r_test ?_ | with_reducible refine r_B ?_ | with_reducible refine r_and ?_ | with_reducible refine r_or ?_ | with_reducible refine r_not ?_
  | with_reducible refine r_for ?_ | with_reducible refine r_iTup ?_ | with_reducible refine r_iList ?_ | with_reducible refine r_iEnumT ?_ | with_reducible refine r_iRng1 ?_ | with_reducible refine r_lcT ?_ | with_reducible refine r_lcL ?_ | with_reducible refine r_lcR ?_
  | with_reducible refine r_andV ?_ | with_reducible refine r_orV ?_ | with_reducible refine r_notV ?_ | with_reducible refine r_bl ?_
  | with_reducible refine r_I0 ?_ | with_reducible refine r_U ?_ | with_reducible refine r_par2 ?_
  | ((with_reducible refine r_eq ?_ ?_); (· rfl)) | ((with_reducible refine r_ne ?_ ?_); (· rfl))
  | ((with_reducible apply r_ixT); (· walk_at "fx"); (· first | rfl | exact atI_zero _ _))
  | ((with_reducible apply r_gtup); (· walk_at "fx"); (· rfl))
  | ((with_reducible apply r_mulW); (· walk_at "bi"); (· walk_at "bi"); (· first | omega | decide))
  | ((with_reducible apply r_isi_tt); (· walk_at "fx")) | with_reducible refine r_isi_ii ?_ | with_reducible refine r_isi_ib ?_ | with_reducible refine r_isi_ss ?_
  | with_reducible refine r_isNon ?_ | with_reducible refine r_isBl ?_
  | ((with_reducible apply r_lenT); (· walk_at "fx")) | with_reducible refine r_abs ?_ | with_reducible refine r_max ?_ | with_reducible refine r_min ?_ | with_reducible refine r_int ?_
  | ((with_reducible apply r_inT); (· walk_at "fx"); (· rfl); (· rfl)) | ((with_reducible apply r_niT); (· walk_at "fx"); (· rfl); (· rfl))
  | ((with_reducible apply r_inL); (· walk_at "ls"); (· rfl); (· rfl))
  | ((with_reducible apply r_tupOfL); (· walk_at "ls"); intro _ _ _ _ _)
  | ((with_reducible refine r_newT ?_ ?_); (· exact Nat.le_of_ble_eq_true rfl); intro _ _ _ _ _)
  | ((with_reducible refine r_newL ?_ ?_); (· exact Nat.le_of_ble_eq_true rfl); intro _ _ _ _ _)
  | ((with_reducible refine r_T ?_ ?_); (· first | rfl | with_reducible assumption))
  | ((with_reducible refine r_F ?_ ?_); (· first | rfl | with_reducible assumption)))
local macro_rules | `(tactic| walk_at "po") => `(tactic| first
  | with_reducible assumption
  | ((with_reducible apply Rat.mul_pos) <;> walk_at "po")
  | exact two_pos | exact four_pos)
local macro_rules | `(tactic| walk_at "sz") => `(tactic| first | omega | decide)
local macro_rules | `(tactic| walk_at "rd1") => `(tactic| first
  | ((with_reducible apply u_ratio_sum); (· walk_at "fa"); (· walk_at "fa"); (· walk_at "bd"); (· walk_at "bd"); (· walk_at "sz"); intro _ _ _ _)
  | ((with_reducible apply u_ratio_product); (· walk_at "fa"); (· walk_at "fa"); (· walk_at "bd"); (· walk_at "bd"); (· walk_at "sz"); intro _ _ _ _)
  | ((with_reducible apply u_ratio_over); (· walk_at "fa"); (· walk_at "fa"); (· walk_at "bd"); (· walk_at "bd"); (· walk_at "sz"); (· walk_at "po"); intro _ _ _ _)
  | ((with_reducible apply u_is_lower); (· walk_at "fa"); (· walk_at "fa"); (· walk_at "bd"); (· walk_at "bd"); (· walk_at "sz"))
  | ((with_reducible apply u_ratio_back); (· walk_at "fa"); intro _ _ _ _)
  | ((with_reducible apply u_is_ratio); (· walk_at "fa"); intro _ _))
local macro_rules | `(tactic| walk_at "rd1") => `(tactic| first
  | ((with_reducible apply u_l_add); (· walk_at "fa"); (· walk_at "fa"); (· walk_at "bd"); (· walk_at "bd"); (· walk_at "sz"); intro _ _ _ _)
  | ((with_reducible apply u_l_sub); (· walk_at "fa"); (· walk_at "fa"); (· walk_at "bd"); (· walk_at "bd"); (· walk_at "sz"); intro _ _ _ _)
  | ((with_reducible apply u_l_mul); (· walk_at "fa"); (· walk_at "fa"); (· walk_at "bd"); (· walk_at "bd"); (· walk_at "sz"); intro _ _ _ _)
  | ((with_reducible apply u_l_div); (· walk_at "fa"); (· walk_at "fa"); (· walk_at "bd"); (· walk_at "bd"); (· walk_at "sz"); (· walk_at "po"); intro _ _ _ _)
  | ((with_reducible apply u_l_less); (· walk_at "fa"); (· walk_at "fa"); (· walk_at "bd"); (· walk_at "bd"); (· walk_at "sz"))
  | ((with_reducible apply u_l_minus); (· walk_at "fa"); intro _ _ _ _))
local macro_rules | `(tactic| walk_at "rd1") => `(tactic| first
  | with_reducible refine r_sl ?_ | with_reducible refine r_part ?_ | with_reducible refine r_nopart ?_ | with_reducible refine r_some ?_ | with_reducible refine r_gsub ?_
  | ((with_reducible apply r_slL); (· walk_at "sq"); intro _ _ _ _ _)
  | ((with_reducible apply r_mulL); (· first | exact Or.inl (by decide) | exact Or.inr (by decide)))
  | ((with_reducible apply r_powL); (· exact ⟨by decide, by decide, by decide⟩))
  | ((with_reducible apply r_lenL); (· walk_at "sq"))
  | ((with_reducible apply r_ixL); (· walk_at "sq"); (· rfl))
  | ((with_reducible apply r_mod); (· first | with_reducible assumption | decide | omega))
  | ((with_reducible apply r_setL); (· walk_at "lg"); (· rfl); intro _ _ _)
  | ((with_reducible apply r_cat); (· walk_at "ls"); (· walk_at "ls"); (· first | omega | exact Nat.le_of_ble_eq_true rfl); intro _ _ _ _ _))
local macro_rules | `(tactic| walk_at "rd") => `(tactic| repeat walk_at "rd1")
local macro_rules | `(tactic| walk_at "st") => `(tactic| ((try simp only [cx_K]); walk_at "rd"))

section
variable {P : Program} {w : World} {K : PySem.W.Frag} {mg : Str → Option Value} {base : Heap} {z0 z1 z2 z4 zu zp zs zb zl : Addr}
theorem ok_l_asks (D : Df K mg "_law_asks" st_l_asks) (T : Txt K mg z0 z1 z2 z4 zu zp zs zb zl) (G_l_draw : Pr P w K mg base 1 "_law_draw" ["_law_vat_here", "_law_many"] (sp_l_draw K)) (G_l_near_ask : Pr P w K mg base 6 "_law_near_ask" ["_law_vat_here", "_law_jet_here", "_law_words"] (sp_l_near_ask K)) (G_l_ask : Pr P w K mg base 6 "_law_ask" ["_law_vat_here", "_law_words", "_law_wide"] (sp_l_ask K)) (G_l_pick : Pr P w K mg base 2 "_law_pick" ["_law_vat_here", "_law_some"] (sp_l_pick K)) : Pr P w K mg base 7 "_law_asks" ["_law_vat_here", "_law_jet_here", "_law_words", "_law_most"] (sp_l_asks K) := by
  refine pr_of D sc_l_asks ?_ (fun _ _ _ _ _ _ us hl => match us, hl with | [_, _, _, _], _ => rfl) (fun f cdv A outer s H vs Q E hr h => ?_)
  · rintro vs H Q E ⟨a, l, j, s, b, ws, rfl, _⟩
    rfl
  · obtain ⟨a, l, j, s, b, ws, rfl, hv, hj, b0, bs, bb, hl, ne, w0, w1, h6, c⟩ := h
    refine ⟨_, (pss_cons (ps_set (i := 4) sc_l_asks.nd rfl (by first | exact Or.inl rfl | exact Or.inr rfl) (pe_lst pa_nil)) (pss_cons (ps_for PassesOwn.never rfl (pi_range1 (by rfl) T.n_range (pa_cons (pe_c G_l_draw (hr.mono (by decide)) (by rfl) (pa_cons (pv 0) (pa_cons (pe_op op_add (pv 3) pe_int) pa_nil))) pa_nil)) (pg_name (i := 5) sc_l_asks.nd rfl (by first | exact Or.inl rfl | exact Or.inr rfl)) (pss_cons (ps_par (by rfl) sc_l_asks.nd (i := 6) (j := 7) rfl rfl (by decide) rfl rfl (pa_cons (pe_c G_l_near_ask (hr.mono (by decide)) (by rfl) (pa_cons (pv 0) (pa_cons (pv 1) (pa_cons (pv 2) pa_nil)))) (pa_cons (pe_c G_l_ask (hr.mono (by decide)) (by rfl) (pa_cons (pv 0) (pa_cons (pv 2) (pa_cons (pe_c G_l_pick (hr.mono (by decide)) (by rfl) (pa_cons (pv 0) (pa_cons (pe_lst (pa_cons pe_int (pa_cons pe_int (pa_cons pe_int pa_nil)))) pa_nil))) pa_nil)))) pa_nil)) (by rfl)) (pss_one (ps_expr (pe_bm PySem.F.plainAttrs_list PySem.F.slot_list_append PySem.F.type_list_append mt_append (pv 4) (pa_cons (pe_ifExp (pt_cmpR op_gt (pe_c G_l_draw (hr.mono (by decide)) (by rfl) (pa_cons (pv 0) (pa_cons pe_int pa_nil))) pe_int (nomark _)) (pv 6) (pv 7)) pa_nil)))))) (pss_one (ps_ret (pe_callTy cl_tuple (by rfl) T.n_tuple b_tuple (pa_cons (pv 4) pa_nil)))))), ?_⟩
    walk_at "st"
    rename_i f0 H0 n0 e0 h0
    have v0 := hv.same e0
    have fa : f0 ≠ a := new_ne hv n0
    have fl : f0 ≠ l := fun z => by rw [z, hl] at n0; cases n0
    refine u_l_draw v0 (by decide) (by decide) fun d H1 d0 d1 g1 v1 => ?_
    walk_at "rd"
    refine r_loopR d0 (by omega) (fun i σ' H' => ∃ us ks u1 u2 u3, σ' = [some (.ref a), some j, some (.ref l), some (.int 8), some (.ref f0), u1, u2, u3] ∧ VatAt H' a ∧ H' f0 = some (.lst us) ∧ AsksAt K H' us ks ∧ us.length = i ∧ (∀ k ∈ ks, k.ok 300) ∧ JetAt K H' j s b ∧ H' l = some (.lst ws) ∧ Go a H H') ?_ ?_ ?_
    · exact ⟨[], [], _, _, _, rfl, v1, g1 _ _ h0 fa, ⟨rfl, fun i v e => by simp at e⟩, rfl, fun k hk => absurd hk List.not_mem_nil, by walk_at "fa", by walk_at "lg", by walk_at "go"⟩
    · rintro i σ' H' hi ⟨us, ks, u1, u2, u3, rfl, v2, hf, ha, hn, hok, hj2, hl2, g2⟩
      walk_at "rd"
      refine u_l_near_ask v2 hj2 b0 bs bb hl2 ne w0 w1 h6 fun x k1 H3 hx ok1 _ g3 v3 => ?_
      walk_at "rd"
      rename_i p4 H4 n4 e4 h4
      have v4 := v3.same e4
      refine u_l_pick v4 h4 (new_ne v3 n4) (by show 0 < 3; decide) (by show 3 ≤ 1000; decide) fun x5 H5 hm5 g5 v5 => ?_
      have hm' : ∃ m : Int, x5 = .int m ∧ 0 < m ∧ m ≤ 1000000000 := by
        simp only [List.mem_cons, List.not_mem_nil, or_false] at hm5
        rcases hm5 with rfl | rfl | rfl <;> exact ⟨_, rfl, by decide, by decide⟩
      obtain ⟨m, rfl, m0, m1⟩ := hm'
      walk_at "rd"
      refine u_l_ask v5 (by walk_at "lg") ne w0 w1 h6 m0 m1 fun y k2 H6 hy ok2 _ g6 v6 => ?_
      walk_at "rd"
      refine r_bm ?_
      walk_at "rd"
      have hf6 : H6 f0 = some (.lst us) := by walk_at "lg"
      refine r_tyL (SqL.of hf6) ?_
      walk_at "rd"
      refine u_l_draw v6 (by decide) (by decide) fun d7 H7 d07 d17 g7 v7 => ?_
      walk_at "rd"
      have hf7 : H7 f0 = some (.lst us) := by walk_at "lg"
      have hl7 : H7 l = some (.lst ws) := by walk_at "lg"
      have hj7 : JetAt K H7 j s b := by walk_at "fa"
      have hx7 : AskAt K H7 x k1 := by walk_at "fa"
      have hy7 : AskAt K H7 y k2 := by walk_at "fa"
      have n37 : Nx H' H7 := (Nx.go v2 g3).trans ((Nx.of e4).trans ((Nx.go v4 g5).trans ((Nx.go v5 g6).trans (Nx.go v6 g7))))
      have ha7 := ha.nx n37
      have g27 : Go a H H7 := g2.trans (g3.trans ((Go.of e4).trans (g5.trans (g6.trans g7))))
      have fin : ∀ (z : V) (k : Ask) (H8 : Hp), AskAt K H7 z k → k.ok 300 → (∀ b o, H7 b = some o → b ≠ f0 → H8 b = some o) → H8 f0 = some (.lst (us ++ [z])) →
          ∃ us' ks' u1 u2 u3, [some (.ref a), some j, some (.ref l), some (.int 8), some (.ref f0), some (.int (0 + (i : Int))), some x, some y] = [some (.ref a), some j, some (.ref l), some (.int 8), some (.ref f0), u1, u2, u3] ∧ VatAt H8 a ∧ H8 f0 = some (.lst us') ∧ AsksAt K H8 us' ks' ∧ us'.length = i + 1 ∧ (∀ k ∈ ks', k.ok 300) ∧ JetAt K H8 j s b ∧ H8 l = some (.lst ws) ∧ Go a H H8 := by
        intro z k H8 hz ok hk h8
        have nx := nx_app hf7 hk
        obtain ⟨x1, y1, z1, q1⟩ := v7
        refine ⟨us ++ [z], ks ++ [k], _, _, _, rfl, ⟨x1, y1, z1, hk _ _ q1 fa.symm⟩, h8, asks_snoc (ha7.nx nx) (hz.nx nx), by rw [List.length_append, hn]; rfl, fun k' hk' => ?_, hj7.nx nx, hk _ _ hl7 fl.symm, fun b o e n => ?_⟩
        · rcases List.mem_append.mp hk' with q | q
          · exact hok k' q
          · rw [List.mem_singleton.mp q]
            exact ok
        · exact hk _ _ (g27 b o e n) (ne_of_none e n0)
      refine r_ite (fun _ => ?_) (fun _ => ?_)
      · walk_at "rd"
        exact r_append hf7 (by omega) fun H8 hk h8 => fin x k1 H8 hx7 ok1 hk h8
      · walk_at "rd"
        exact r_append hf7 (by omega) fun H8 hk h8 => fin y k2 H8 hy7 ok2 hk h8
    · rintro σ' H' ⟨us, ks, u1, u2, u3, rfl, v2, hf, ha, hn, hok, hj2, hl2, g2⟩
      walk_at "rd"
      rename_i p3 H3 n3 e3 h3
      exact c _ ks _ ⟨us, tp_of h3, ha.nx (Nx.of e3)⟩ hok (by rw [← ha.1, hn]; omega) (by walk_at "go") (by walk_at "va")
end
end K17
/-! What the law compares: data of asks, opposite asks, texts of truth values. -/
namespace K17
set_option linter.all false
set_option maxRecDepth 100000
set_option maxHeartbeats 8000000
open PySem PySem.Spec PyProof.Rows L2
/-! ### an ask as data -/
def askD : Ask → PyData
  | .over x y w => .tuple [.str "over", .tuple [.int x, .int y, .int w]]
  | .under x y w => .tuple [.str "under", .tuple [.int x, .int y, .int w]]
  | .dives x m => .tuple [.str "dives", .tuple [.int x.num, .int (x.den : Int)], .tuple [.int m.num, .int (m.den : Int)]]
  | .climbs x m => .tuple [.str "climbs", .tuple [.int x.num, .int (x.den : Int)], .tuple [.int m.num, .int (m.den : Int)]]
  | .quick b => .tuple [.str "quick", .tuple [.int b.num, .int (b.den : Int)]]
  | .slow b => .tuple [.str "slow", .tuple [.int b.num, .int (b.den : Int)]]
theorem askD_ok (k : Ask) : (askD k).canLay0 = true ∧ (askD k).depth ≤ 3 := by
  have s1 : ∀ z ∈ ([("over" : Str), "under", "dives", "climbs", "quick", "slow"] : List Str), PyData.strOk z = true := by decide +kernel
  have s2 : ∀ z : Str, z ∈ ([("over" : Str), "under", "dives", "climbs", "quick", "slow"] : List Str) → PyData.canLay0 (.str z) = true := fun z h => by
    simp only [PyData.canLay0]
    exact s1 z h
  cases k <;> simp only [askD, PyData.canLay0, PyData.canLayAll0, PyData.depth, PyData.depthAll] <;> exact ⟨by rw [s1 _ (by simp)]; rfl, by decide⟩
section
variable {K : PySem.W.Frag} {H : Hp}
theorem dp_pl {p : V} {x y w : Int} (h : Tp K H p [.int x, .int y, .int w]) : Dp K H p (.tuple [.int x, .int y, .int w]) := by
  obtain ⟨a, rfl, s⟩ := h
  exact .tup s (.cons (.int _) (.cons (.int _) (.cons (.int _) .nil)))
theorem dp_ask {v : V} {k : Ask} (h : AskAt K H v k) : Dp K H v (askD k) := by
  cases k with
  | over x y w =>
    obtain ⟨p, ⟨a, rfl, s⟩, hp⟩ := h
    exact .tup s (.cons (.str _) (.cons (dp_pl hp) .nil))
  | under x y w =>
    obtain ⟨p, ⟨a, rfl, s⟩, hp⟩ := h
    exact .tup s (.cons (.str _) (.cons (dp_pl hp) .nil))
  | dives x m =>
    obtain ⟨p, r, ⟨a, rfl, s⟩, hp, hr⟩ := h
    exact .tup s (.cons (.str _) (.cons (dp_fr hp) (.cons (dp_fr hr) .nil)))
  | climbs x m =>
    obtain ⟨p, r, ⟨a, rfl, s⟩, hp, hr⟩ := h
    exact .tup s (.cons (.str _) (.cons (dp_fr hp) (.cons (dp_fr hr) .nil)))
  | quick b =>
    obtain ⟨p, ⟨a, rfl, s⟩, hp⟩ := h
    exact .tup s (.cons (.str _) (.cons (dp_fr hp) .nil))
  | slow b =>
    obtain ⟨p, ⟨a, rfl, s⟩, hp⟩ := h
    exact .tup s (.cons (.str _) (.cons (dp_fr hp) .nil))
theorem dp_asks : ∀ {us : List V}, (∀ v ∈ us, ∃ k, AskAt K H v k) → ∃ ds, DpAll K H us ds ∧ PyData.canLayAll0 ds = true ∧ PyData.depthAll ds ≤ 3 ∧ (us = [] ↔ ds = [])
  | [], _ => ⟨[], .nil, rfl, Nat.zero_le _, by simp⟩
  | v :: us, h => by
    obtain ⟨k, hk⟩ := h v List.mem_cons_self
    obtain ⟨ds, a, b, c, _⟩ := dp_asks (us := us) fun u hu => h u (List.mem_cons_of_mem _ hu)
    refine ⟨askD k :: ds, .cons (dp_ask hk) a, ?_, ?_, by simp⟩
    · show ((askD k).canLay0 && PyData.canLayAll0 ds) = true
      rw [(askD_ok k).1, b]
      rfl
    · show max (askD k).depth (PyData.depthAll ds) ≤ 3
      exact Nat.max_le.mpr ⟨(askD_ok k).2, c⟩
/-- l == [] -/
theorem r_eqNil {Q : VK} {l e : Addr} {us : List V} (h : H l = some (.lst us)) (he : H e = some (.lst [])) (ha : ∀ v ∈ us, ∃ k, AskAt K H v k) (q : Q (.bl us.isEmpty) H) : rEqD K (.ref l) (.ref e) H Q := by
  obtain ⟨ds, a, b, c, d⟩ := dp_asks ha
  refine ⟨.list ds, .list [], .lst (SqL.of h) a, .lst (SqL.of he) .nil, ?_, rfl, ?_⟩
  · show ((PyData.list ds).canLay0 && decide ((PyData.list ds).depth ≤ 64)) = true
    rw [show (PyData.list ds).canLay0 = true from b, decide_eq_true (show (PyData.list ds).depth ≤ 64 from by show PyData.depthAll ds + 1 ≤ 64; omega)]
    rfl
  · have e : PyData.eqv (.list ds) (.list []) = us.isEmpty := by
      cases us with
      | nil =>
        rw [d.mp rfl]
        rfl
      | cons v us =>
        cases ds with
        | nil => exact absurd (d.mpr rfl) (by simp)
        | cons x ds => rfl
    rw [e]
    exact q
/-! ### texts of truth values -/
theorem rb2 : ∀ b1 b2 : Bool, (PyData.list ([b1, b2].map .bool)).showable = true ∧ (PyData.list ([b1, b2].map .bool)).hasDict = false ∧ (PyData.list ([b1, b2].map .bool)).depth ≤ 10 ∧ (PyData.list ([b1, b2].map .bool)).shown.length ≤ sizeLine := by decide +kernel
theorem rb3 : ∀ b1 b2 b3 : Bool, (PyData.list ([b1, b2, b3].map .bool)).showable = true ∧ (PyData.list ([b1, b2, b3].map .bool)).hasDict = false ∧ (PyData.list ([b1, b2, b3].map .bool)).depth ≤ 10 ∧ (PyData.list ([b1, b2, b3].map .bool)).shown.length ≤ sizeLine := by decide +kernel
def text2 (b1 b2 : Bool) : Str := (PyData.list ([b1, b2].map .bool)).shown
def text3 (b1 b2 b3 : Bool) : Str := (PyData.list ([b1, b2, b3].map .bool)).shown
theorem r_repr2 {Q : VK} {a : Addr} {b1 b2 : Bool} (h : H a = some (.lst [.bl b1, .bl b2])) (q : Q (.str (text2 b1 b2)) H) : rReprB K [.ref a] H Q :=
  ⟨a, [b1, b2], rfl, SqL.of h, (rb2 b1 b2).1, (rb2 b1 b2).2.1, (rb2 b1 b2).2.2.1, (rb2 b1 b2).2.2.2, q⟩
theorem r_repr3 {Q : VK} {a : Addr} {b1 b2 b3 : Bool} (h : H a = some (.lst [.bl b1, .bl b2, .bl b3])) (q : Q (.str (text3 b1 b2 b3)) H) : rReprB K [.ref a] H Q :=
  ⟨a, [b1, b2, b3], rfl, SqL.of h, (rb3 b1 b2 b3).1, (rb3 b1 b2 b3).2.1, (rb3 b1 b2 b3).2.2.1, (rb3 b1 b2 b3).2.2.2, q⟩
/-! ### the opposite ask -/
def ArgsAt (K : PySem.W.Frag) (H : Hp) (us : List V) : Ask → Prop
  | .over x y w => ∃ p, us = [p] ∧ Tp K H p [.int x, .int y, .int w]
  | .under x y w => ∃ p, us = [p] ∧ Tp K H p [.int x, .int y, .int w]
  | .dives x m => ∃ p r, us = [p, r] ∧ Fr K H p x ∧ Fr K H r m
  | .climbs x m => ∃ p r, us = [p, r] ∧ Fr K H p x ∧ Fr K H r m
  | .quick b => ∃ p, us = [p] ∧ Fr K H p b
  | .slow b => ∃ p, us = [p] ∧ Fr K H p b
theorem ArgsAt.nx {H' : Hp} {us : List V} {k : Ask} (h : ArgsAt K H us k) (n : Nx H H') : ArgsAt K H' us k := by
  cases k with
  | over x y w => obtain ⟨p, a, b⟩ := h; exact ⟨p, a, b.nx n⟩
  | under x y w => obtain ⟨p, a, b⟩ := h; exact ⟨p, a, b.nx n⟩
  | dives x m => obtain ⟨p, r, a, b, c⟩ := h; exact ⟨p, r, a, b.nx n, c.nx n⟩
  | climbs x m => obtain ⟨p, r, a, b, c⟩ := h; exact ⟨p, r, a, b.nx n, c.nx n⟩
  | quick b => obtain ⟨p, a, c⟩ := h; exact ⟨p, a, c.nx n⟩
  | slow b => obtain ⟨p, a, c⟩ := h; exact ⟨p, a, c.nx n⟩
theorem ArgsAt.back {H' : Hp} {us : List V} {k : Ask} (n : Nx H H') (h : ArgsAt K H us k) : ArgsAt K H' us k := h.nx n
theorem Tuple.back {H' : Hp} {v : V} {ks : List Ask} (n : Nx H H') (h : Tuple K H v ks) : Tuple K H' v ks := h.nx n
theorem ask_split {v : V} {k : Ask} (h : AskAt K H v k) : ∃ us, Tp K H v (.str k.word :: us) ∧ ArgsAt K H us k ∧ us ≠ [] ∧ us.length ≤ 2 := by
  cases k with
  | over x y w => obtain ⟨p, a, b⟩ := h; exact ⟨_, a, ⟨p, rfl, b⟩, by simp, by simp⟩
  | under x y w => obtain ⟨p, a, b⟩ := h; exact ⟨_, a, ⟨p, rfl, b⟩, by simp, by simp⟩
  | dives x m => obtain ⟨p, r, a, b, c⟩ := h; exact ⟨_, a, ⟨p, r, rfl, b, c⟩, by simp, by simp⟩
  | climbs x m => obtain ⟨p, r, a, b, c⟩ := h; exact ⟨_, a, ⟨p, r, rfl, b, c⟩, by simp, by simp⟩
  | quick b => obtain ⟨p, a, c⟩ := h; exact ⟨_, a, ⟨p, rfl, c⟩, by simp, by simp⟩
  | slow b => obtain ⟨p, a, c⟩ := h; exact ⟨_, a, ⟨p, rfl, c⟩, by simp, by simp⟩
theorem ask_join {v : V} {us : List V} {k : Ask} (h : Tp K H v (.str k.word :: us)) (ha : ArgsAt K H us k) : AskAt K H v k := by
  cases k with
  | over x y w => obtain ⟨p, rfl, b⟩ := ha; exact ⟨p, h, b⟩
  | under x y w => obtain ⟨p, rfl, b⟩ := ha; exact ⟨p, h, b⟩
  | dives x m => obtain ⟨p, r, rfl, b, c⟩ := ha; exact ⟨p, r, h, b, c⟩
  | climbs x m => obtain ⟨p, r, rfl, b, c⟩ := ha; exact ⟨p, r, h, b, c⟩
  | quick b => obtain ⟨p, rfl, c⟩ := ha; exact ⟨p, h, c⟩
  | slow b => obtain ⟨p, rfl, c⟩ := ha; exact ⟨p, h, c⟩
theorem args_opp {us : List V} {k : Ask} (h : ArgsAt K H us k) : ArgsAt K H us k.opp := by
  cases k <;> exact h
end
def opp6 : List V := [.str "under", .str "over", .str "climbs", .str "dives", .str "slow", .str "quick"]
theorem six_at {i : Nat} {y : V} (h : six[i]? = some y) : ∃ z z', y = .str z ∧ opp6[i]? = some (.str z') ∧ (∀ (m : Nat) (u : V), m < i → six[m]? = some u → eqV u (.str z) = false) ∧ ∀ k : Ask, k.word = z → k.opp.word = z' := by
  match i, h with
  | 0, h =>
    cases h
    refine ⟨"over", "under", rfl, rfl, fun m u hm _ => absurd hm (Nat.not_lt_zero _), fun k hk => ?_⟩
    cases k <;> first | rfl | (simp only [Ask.word] at hk; exact absurd hk (by decide +kernel))
  | 1, h =>
    cases h
    refine ⟨"under", "over", rfl, rfl, fun m u hm e => ?_, fun k hk => ?_⟩
    · match m, hm, e with
      | 0, _, e => cases e; decide +kernel
    · cases k <;> first | rfl | (simp only [Ask.word] at hk; exact absurd hk (by decide +kernel))
  | 2, h =>
    cases h
    refine ⟨"dives", "climbs", rfl, rfl, fun m u hm e => ?_, fun k hk => ?_⟩
    · match m, hm, e with
      | 0, _, e => cases e; decide +kernel
      | 1, _, e => cases e; decide +kernel
    · cases k <;> first | rfl | (simp only [Ask.word] at hk; exact absurd hk (by decide +kernel))
  | 3, h =>
    cases h
    refine ⟨"climbs", "dives", rfl, rfl, fun m u hm e => ?_, fun k hk => ?_⟩
    · match m, hm, e with
      | 0, _, e => cases e; decide +kernel
      | 1, _, e => cases e; decide +kernel
      | 2, _, e => cases e; decide +kernel
    · cases k <;> first | rfl | (simp only [Ask.word] at hk; exact absurd hk (by decide +kernel))
  | 4, h =>
    cases h
    refine ⟨"quick", "slow", rfl, rfl, fun m u hm e => ?_, fun k hk => ?_⟩
    · match m, hm, e with
      | 0, _, e => cases e; decide +kernel
      | 1, _, e => cases e; decide +kernel
      | 2, _, e => cases e; decide +kernel
      | 3, _, e => cases e; decide +kernel
    · cases k <;> first | rfl | (simp only [Ask.word] at hk; exact absurd hk (by decide +kernel))
  | 5, h =>
    cases h
    refine ⟨"slow", "quick", rfl, rfl, fun m u hm e => ?_, fun k hk => ?_⟩
    · match m, hm, e with
      | 0, _, e => cases e; decide +kernel
      | 1, _, e => cases e; decide +kernel
      | 2, _, e => cases e; decide +kernel
      | 3, _, e => cases e; decide +kernel
      | 4, _, e => cases e; decide +kernel
    · cases k <;> first | rfl | (simp only [Ask.word] at hk; exact absurd hk (by decide +kernel))
  | i + 6, h => cases h
section
variable {K : PySem.W.Frag} {H : Hp} {Q : VK}
theorem cut_tail (x : V) (us : List V) : cutV (x :: us) (some 1) none = us := by
  unfold cutV
  rw [show HT.sIx (x :: us).length 0 (some 1) = min 1 (x :: us).length from HT.sIx_nat _ 0 1, HT.sIx_none, show min 1 (x :: us).length = 1 by rw [List.length_cons]; omega]
  show List.take ((x :: us).length - 1) us = us
  rw [List.length_cons, Nat.add_sub_cancel]
  exact List.take_length
/-- t[1:] -/
theorem r_tailT {v x : V} {us : List V} (h : Tp K H v (x :: us)) (k : ∀ p H', H p = none → Same H H' → H' p = some (.tup us) → Q (.ref p) H') : rSlT K v (some 1) none H Q := by
  obtain ⟨a, rfl, s⟩ := h
  refine ⟨a, _, rfl, s, fun z => ?_, fun p n => ?_⟩
  · have e := z.1
    rw [show HT.sIx (x :: us).length 0 (some 1) = min 1 (x :: us).length from HT.sIx_nat _ 0 1, List.length_cons] at e
    omega
  · rw [cut_tail]
    exact k p _ n (same_new n) upd_same
theorem r_catT {v u : V} {xs ys : List V} (h : Tp K H v xs) (h' : Tp K H u ys) (hx : xs ≠ []) (hy : ys ≠ []) (hl : xs.length + ys.length ≤ 1000) (k : ∀ p H', H p = none → Same H H' → H' p = some (.tup (xs ++ ys)) → Q (.ref p) H') : rCatT K v u H Q := by
  obtain ⟨a, rfl, s⟩ := h
  obtain ⟨b, rfl, s'⟩ := h'
  exact ⟨a, b, xs, ys, rfl, rfl, s, s', hx, Nat.le_trans hl (by decide), fun z => absurd z hy, fun _ p n => k p _ n (same_new n) upd_same⟩
theorem r_index {a : Addr} {ys : List V} {z : Str} {j : Nat} (h : H a = some (.lst ys)) (hf : ys.all flatV = true) (hz : ys[j]? = some (.str z)) (hno : ∀ (m : Nat) (u : V), m < j → ys[m]? = some u → eqV u (.str z) = false) (q : Q (.int (j : Nat)) H) : rIndex K (.ref a) [.str z] H Q :=
  ⟨a, ys, .str z, j, .str z, rfl, rfl, SqL.of h, rfl, hf, hz, by show (z == z) = true; exact beq_self_eq_true z, hno, q⟩
theorem num_nonpos {q : Rat} : q.num ≤ 0 ↔ q ≤ 0 := by
  have h1 := @num_pos q
  have h2 : q ≤ 0 ↔ ¬ 0 < q := Rat.not_lt.symm
  rw [h2, ← h1]
  omega
end
end K17
/-! One turn of the law. -/
namespace K17
set_option linter.all false
set_option maxRecDepth 100000
set_option maxHeartbeats 8000000
open PySem PySem.Spec PyProof.Rows L2
def sp_l_right (K : PySem.W.Frag) : Sp := fun vs H Q _ => ∃ a : Addr, vs = [.ref a] ∧ VatAt H a ∧ ∀ H', Go a H H' → Q (.bl true) H'
theorem u_l_right {K : PySem.W.Frag} {H : Hp} {Q : VK} {E : XK} {a : Addr} (v : VatAt H a) (k : ∀ H', Go a H H' → Q (.bl true) H') : sp_l_right K ([.ref a] ++ []) H Q E := ⟨a, rfl, v, k⟩
theorem r_callR {σ : L2.St} {H : Hp} {Q : VK} {sp : Sp} {tk : TA} (h : tk σ H fun zs H1 => sp zs.reverse H1 Q E0) : tCallR sp tk σ H Q := h
local macro_rules | `(tactic| walk_at "bd") => `(tactic| first
  | with_reducible assumption
  | exact Bd.zero | exact Bd.one | exact Bd.two | exact Bd.four
  | ((with_reducible apply Bd.add) <;> walk_at "bd")
  | ((with_reducible apply Bd.sub) <;> walk_at "bd")
  | ((with_reducible apply Bd.mul) <;> walk_at "bd")
  | ((with_reducible apply Bd.div); (· walk_at "bd"); (· walk_at "bd"); (· walk_at "po"))
  | ((with_reducible apply Bd.neg) <;> walk_at "bd"))
local macro_rules | `(tactic| walk_at "bi") => `(tactic| first
  | with_reducible assumption
  | ((with_reducible apply Bd.bn) <;> walk_at "bd")
  | ((with_reducible apply Bd.bd) <;> walk_at "bd")
  | ((with_reducible apply Bi.mul) <;> walk_at "bi")
  | ((with_reducible apply Bi.add) <;> walk_at "bi")
  | ((with_reducible apply Bi.sub) <;> walk_at "bi")
  | ((with_reducible apply Bi.neg) <;> walk_at "bi"))
local macro_rules | `(tactic| walk_at "va") => `(tactic| first
  | with_reducible assumption
  | ((with_reducible apply VatAt.back); (· with_reducible assumption); walk_at "va"))
local macro_rules | `(tactic| walk_at "nx") => `(tactic| first
  | ((with_reducible apply Nx.of); with_reducible assumption)
  | ((with_reducible apply Nx.gov); (· with_reducible assumption); (· walk_at "va")))
local macro_rules | `(tactic| walk_at "fa") => `(tactic| first
  | with_reducible assumption
  | ((with_reducible apply tp_of); with_reducible assumption)
  | ((with_reducible apply Txt.t_ZERO); with_reducible assumption) | ((with_reducible apply Txt.t_ONE); with_reducible assumption) | ((with_reducible apply Txt.t_TWO); with_reducible assumption) | ((with_reducible apply Txt.t_FOUR); with_reducible assumption) | ((with_reducible apply Txt.t_UNIT); with_reducible assumption) | ((with_reducible apply Txt.t_PLACED); with_reducible assumption) | ((with_reducible apply Txt.t_STEEP); with_reducible assumption) | ((with_reducible apply Txt.t_BENT); with_reducible assumption) | ((with_reducible apply Txt.t_LEAST); with_reducible assumption)
  | ((with_reducible apply Fr.back); (· walk_at "nx"); walk_at "fa")
  | ((with_reducible apply Tp.back); (· walk_at "nx"); walk_at "fa")
  | ((with_reducible apply JetAt.back); (· walk_at "nx"); walk_at "fa")
  | ((with_reducible apply AskAt.back); (· walk_at "nx"); walk_at "fa")
  | ((with_reducible apply ArgsAt.back); (· walk_at "nx"); walk_at "fa")
  | ((with_reducible apply Tuple.back); (· walk_at "nx"); walk_at "fa"))
local macro_rules | `(tactic| walk_at "sm") => `(tactic| first
  | with_reducible assumption
  | with_reducible exact Same.refl _
  | (apply Same.back; (· with_reducible assumption); walk_at "sm"))
local macro_rules | `(tactic| walk_at "ls") => `(tactic| first
  | with_reducible assumption
  | ((with_reducible apply ls_back); (· with_reducible assumption); walk_at "ls"))
local macro_rules | `(tactic| walk_at "go") => `(tactic| first
  | with_reducible assumption
  | with_reducible exact Go.refl _
  | ((with_reducible apply Go.of); with_reducible assumption)
  | ((with_reducible apply Go.backS); (· with_reducible assumption); walk_at "go")
  | ((with_reducible apply Go.back); (· with_reducible assumption); walk_at "go"))
local macro_rules | `(tactic| walk_at "lg") => `(tactic| first
  | with_reducible assumption
  | ((with_reducible apply ls_back); (· with_reducible assumption); walk_at "lg")
  | ((with_reducible apply ls_go); (· with_reducible assumption); (· with_reducible assumption); walk_at "lg"))
local macro_rules | `(tactic| walk_at "sq") => `(tactic| first
  | with_reducible assumption
  | ((with_reducible apply SqL.of); walk_at "lg")
  | ((with_reducible apply sq_back); (· with_reducible assumption); walk_at "sq"))
local macro_rules | `(tactic| walk_at "fx") => `(tactic| first
  | walk_at "fa"
  | ((with_reducible apply Fr.tp); walk_at "fa"))
local macro_rules | `(tactic| walk_at "rd1") => `(tactic| first
  | with_reducible refine r_ret ?_ | with_reducible refine r_seq ?_ | with_reducible refine r_asg ?_ | with_reducible refine r_drop ?_ | with_reducible refine r_ifS ?_ | with_reducible refine r_par ?_ | with_reducible refine r_next ?_
  | with_reducible refine r_name ?_ | with_reducible refine r_gcons ?_ | with_reducible refine r_gnil ?_
  | ((with_reducible apply r_var); (· rfl))
  | with_reducible refine r_c ?_ | with_reducible refine r_op ?_ | with_reducible refine r_un ?_ | with_reducible refine r_call ?_ | with_reducible refine r_cb ?_ | with_reducible refine r_cons ?_ | with_reducible refine r_nil ?_
  | with_reducible refine r_tup ?_ | with_reducible refine r_lst ?_ | with_reducible refine r_if ?_ | with_reducible refine r_test ?_ | with_reducible refine r_B ?_ | with_reducible refine r_and ?_ | with_reducible refine r_or ?_ | with_reducible refine r_not ?_
  | with_reducible refine r_for ?_ | with_reducible refine r_iTup ?_ | with_reducible refine r_iList ?_ | with_reducible refine r_iEnumT ?_ | with_reducible refine r_iRng1 ?_ | with_reducible refine r_lcT ?_ | with_reducible refine r_lcL ?_ | with_reducible refine r_lcR ?_
  | with_reducible refine r_andV ?_ | with_reducible refine r_orV ?_ | with_reducible refine r_notV ?_ | with_reducible refine r_bl ?_
  | with_reducible refine r_I0 ?_ | with_reducible refine r_U ?_ | with_reducible refine r_par2 ?_
  | ((with_reducible refine r_eq ?_ ?_); (· rfl)) | ((with_reducible refine r_ne ?_ ?_); (· rfl))
  | ((with_reducible apply r_ixT); (· walk_at "fx"); (· first | rfl | exact atI_zero _ _))
  | ((with_reducible apply r_gtup); (· walk_at "fx"); (· rfl))
  | ((with_reducible apply r_mulW); (· walk_at "bi"); (· walk_at "bi"); (· first | omega | decide))
  | ((with_reducible apply r_isi_tt); (· walk_at "fx")) | with_reducible refine r_isi_ii ?_ | with_reducible refine r_isi_ib ?_ | with_reducible refine r_isi_ss ?_
  | with_reducible refine r_isNon ?_ | with_reducible refine r_isBl ?_
  | ((with_reducible apply r_lenT); (· walk_at "fx")) | with_reducible refine r_abs ?_ | with_reducible refine r_max ?_ | with_reducible refine r_min ?_ | with_reducible refine r_int ?_
  | ((with_reducible apply r_inT); (· walk_at "fx"); (· rfl); (· rfl)) | ((with_reducible apply r_niT); (· walk_at "fx"); (· rfl); (· rfl))
  | ((with_reducible apply r_inL); (· walk_at "ls"); (· rfl); (· rfl))
  | ((with_reducible apply r_tupOfL); (· walk_at "ls"); intro _ _ _ _ _)
  | ((with_reducible refine r_newT ?_ ?_); (· exact Nat.le_of_ble_eq_true rfl); intro _ _ _ _ _)
  | ((with_reducible refine r_newL ?_ ?_); (· exact Nat.le_of_ble_eq_true rfl); intro _ _ _ _ _)
  | ((with_reducible refine r_T ?_ ?_); (· first | rfl | with_reducible assumption))
  | ((with_reducible refine r_F ?_ ?_); (· first | rfl | with_reducible assumption)))
local macro_rules | `(tactic| walk_at "po") => `(tactic| first
  | with_reducible assumption
  | ((with_reducible apply Rat.mul_pos) <;> walk_at "po")
  | exact two_pos | exact four_pos)
local macro_rules | `(tactic| walk_at "sz") => `(tactic| first | omega | decide)
local macro_rules | `(tactic| walk_at "rd1") => `(tactic| first
  | ((with_reducible apply u_ratio_sum); (· walk_at "fa"); (· walk_at "fa"); (· walk_at "bd"); (· walk_at "bd"); (· walk_at "sz"); intro _ _ _ _)
  | ((with_reducible apply u_ratio_product); (· walk_at "fa"); (· walk_at "fa"); (· walk_at "bd"); (· walk_at "bd"); (· walk_at "sz"); intro _ _ _ _)
  | ((with_reducible apply u_ratio_over); (· walk_at "fa"); (· walk_at "fa"); (· walk_at "bd"); (· walk_at "bd"); (· walk_at "sz"); (· walk_at "po"); intro _ _ _ _)
  | ((with_reducible apply u_is_lower); (· walk_at "fa"); (· walk_at "fa"); (· walk_at "bd"); (· walk_at "bd"); (· walk_at "sz"))
  | ((with_reducible apply u_ratio_back); (· walk_at "fa"); intro _ _ _ _)
  | ((with_reducible apply u_is_ratio); (· walk_at "fa"); intro _ _))
local macro_rules | `(tactic| walk_at "rd1") => `(tactic| first
  | ((with_reducible apply u_l_add); (· walk_at "fa"); (· walk_at "fa"); (· walk_at "bd"); (· walk_at "bd"); (· walk_at "sz"); intro _ _ _ _)
  | ((with_reducible apply u_l_sub); (· walk_at "fa"); (· walk_at "fa"); (· walk_at "bd"); (· walk_at "bd"); (· walk_at "sz"); intro _ _ _ _)
  | ((with_reducible apply u_l_mul); (· walk_at "fa"); (· walk_at "fa"); (· walk_at "bd"); (· walk_at "bd"); (· walk_at "sz"); intro _ _ _ _)
  | ((with_reducible apply u_l_div); (· walk_at "fa"); (· walk_at "fa"); (· walk_at "bd"); (· walk_at "bd"); (· walk_at "sz"); (· walk_at "po"); intro _ _ _ _)
  | ((with_reducible apply u_l_less); (· walk_at "fa"); (· walk_at "fa"); (· walk_at "bd"); (· walk_at "bd"); (· walk_at "sz"))
  | ((with_reducible apply u_l_minus); (· walk_at "fa"); intro _ _ _ _))
local macro_rules | `(tactic| walk_at "rd1") => `(tactic| first
  | with_reducible refine r_callR ?_ | with_reducible refine r_bm ?_ | ((with_reducible apply r_tyL); (· walk_at "sq"))
  | with_reducible refine r_sl ?_ | with_reducible refine r_part ?_ | with_reducible refine r_nopart ?_ | with_reducible refine r_some ?_ | with_reducible refine r_gsub ?_
  | ((with_reducible apply r_slL); (· walk_at "sq"); intro _ _ _ _ _)
  | ((with_reducible apply r_mulL); (· first | exact Or.inl (by decide) | exact Or.inr (by decide)))
  | ((with_reducible apply r_powL); (· exact ⟨by decide, by decide, by decide⟩))
  | ((with_reducible apply r_lenL); (· walk_at "sq"))
  | ((with_reducible apply r_ixL); (· walk_at "sq"); (· rfl))
  | ((with_reducible apply r_mod); (· first | with_reducible assumption | decide | omega))
  | ((with_reducible apply r_setL); (· walk_at "lg"); (· rfl); intro _ _ _)
  | ((with_reducible apply r_cat); (· walk_at "ls"); (· walk_at "ls"); (· first | omega | exact Nat.le_of_ble_eq_true rfl); intro _ _ _ _ _))
local macro_rules | `(tactic| walk_at "rd") => `(tactic| repeat walk_at "rd1")
local macro_rules | `(tactic| walk_at "st") => `(tactic| ((try simp only [cx_K]); walk_at "rd"))

section
variable {P : Program} {w : World} {K : PySem.W.Frag} {mg : Str → Option Value} {base : Heap} {z0 z1 z2 z4 zu zp zs zb zl : Addr}
theorem head_pos {s b : Rat} (h0 : 0 < b) : 0 < headOf s b := by
  have h4 : 0 < 4 * b := Rat.mul_pos four_pos h0
  have hs : 0 ≤ s * s := by
    rcases Rat.le_total (a := 0) (b := s) with h | h
    · exact Rat.mul_nonneg h h
    · have := Rat.mul_nonneg (a := -s) (b := -s) (by grind) (by grind)
      grind
  unfold headOf
  rw [Rat.div_def]
  exact Rat.mul_pos (by grind) (Rat.inv_pos.mpr h4)
theorem head_bd31 {s b : Rat} (h0 : 0 < b) (bs : Bd 31 s) (bb : Bd 31 b) : Bd 100 (headOf s b) :=
  (Bd.div (Bd.add Bd.one (Bd.mul bs bs)) (Bd.mul Bd.four bb) (Rat.mul_pos four_pos h0)).mono (by decide)
theorem ok_l_right (D : Df K mg "_law_right" st_l_right) (T : Txt K mg z0 z1 z2 z4 zu zp zs zb zl) (G_l_asks : Pr P w K mg base 7 "_law_asks" ["_law_vat_here", "_law_jet_here", "_law_words", "_law_most"] (sp_l_asks K)) (G_l_head : Pr P w K mg base 5 "_law_head" ["_law_jet_here"] (sp_l_head K)) (G_l_jet : Pr P w K mg base 5 "_law_jet" ["_law_vat_here"] (sp_l_jet K)) (G_l_worth : Pr P w K mg base 5 "_law_worth" ["_law_row_here", "_law_jet_here"] (sp_l_worth K)) (G_l_mul : Pr P w K mg base 4 "_law_mul" ["_law_one", "_law_two"] (sp_l_mul K)) (G_l_above : Pr P w K mg base 4 "_law_above" ["_law_vat_here", "_law_wide"] (sp_l_above K)) (G_l_near_ask : Pr P w K mg base 6 "_law_near_ask" ["_law_vat_here", "_law_jet_here", "_law_words"] (sp_l_near_ask K)) (G_l_ask : Pr P w K mg base 6 "_law_ask" ["_law_vat_here", "_law_words", "_law_wide"] (sp_l_ask K)) (G_l_row : Pr P w K mg base 5 "_law_row" ["_law_ask_here", "_law_distance"] (sp_l_row K)) (G_does : PrK P w K mg base 7 "does" ["jet", "ask"] (sp_does K)) (G_does_all : PrK P w K mg base 8 "does_all" ["jet", "asks"] (sp_does_all K)) (G_is_good : PrK P w K mg base 8 "is_good" ["jet", "head", "asks"] (sp_is_good K)) (G_l_draw : Pr P w K mg base 1 "_law_draw" ["_law_vat_here", "_law_many"] (sp_l_draw K)) (G_l_size : Pr P w K mg base 3 "_law_size" ["_law_vat_here"] (sp_l_size K)) (G_l_less : Pr P w K mg base 1 "_law_less" ["_law_one", "_law_two"] (sp_l_less K)) (G_l_does : Pr P w K mg base 6 "_law_does" ["_law_jet_here", "_law_ask_here"] (sp_l_does K)) : PrG P w K mg base 9 "_law_right" ["_law_vat_here"] (sp_l_right K) := by
  refine prg_of D sc_l_right ?_ (fun _ _ _ _ _ _ us hl => match us, hl with | [_], _ => rfl) (fun f cdv A outer s H vs Q E hgd hr h => ?_)
  · rintro vs H Q E ⟨a, rfl, _⟩
    rfl
  · obtain ⟨a, rfl, hv, c⟩ := h
    refine ⟨_, (pss_cons (ps_asg (pe_tup (pa_cons (pe_c G_l_jet (hr.mono (by decide)) (by rfl) (pa_cons (pv 0) pa_nil)) (pa_cons (pe_lst (pa_cons pe_str (pa_cons pe_str (pa_cons pe_str (pa_cons pe_str (pa_cons pe_str (pa_cons pe_str pa_nil))))))) pa_nil))) (pg_tup (by rfl) (pgs_cons (pg_name (i := 7) sc_l_right.nd rfl (by first | exact Or.inl rfl | exact Or.inr rfl)) (pgs_cons (pg_name (i := 8) sc_l_right.nd rfl (by first | exact Or.inl rfl | exact Or.inr rfl)) pgs_nil)))) (pss_cons (ps_set (i := 1) sc_l_right.nd rfl (by first | exact Or.inl rfl | exact Or.inr rfl) (pe_lst (pa_cons pe_str (pa_cons pe_str (pa_cons pe_str (pa_cons pe_str (pa_cons pe_str (pa_cons pe_str pa_nil)))))))) (pss_cons (ps_for PassesOwn.never rfl (pi_list (pv 8)) (pg_name (i := 2) sc_l_right.nd rfl (by first | exact Or.inl rfl | exact Or.inr rfl)) (pss_cons (ps_set (i := 9) sc_l_right.nd rfl (by first | exact Or.inl rfl | exact Or.inr rfl) (pe_ifExp (pt_cmpR op_gt (pe_c G_l_draw (hr.mono (by decide)) (by rfl) (pa_cons (pv 0) (pa_cons pe_int pa_nil))) pe_int (nomark _)) (pe_c G_l_near_ask (hr.mono (by decide)) (by rfl) (pa_cons (pv 0) (pa_cons (pv 7) (pa_cons (pe_lst (pa_cons (pv 2) pa_nil)) pa_nil)))) (pe_c G_l_ask (hr.mono (by decide)) (by rfl) (pa_cons (pv 0) (pa_cons (pe_lst (pa_cons (pv 2) pa_nil)) (pa_cons (pe_c G_l_size (hr.mono (by decide)) (by rfl) (pa_cons (pv 0) pa_nil)) pa_nil)))))) (pss_cons (ps_set (i := 10) sc_l_right.nd rfl (by first | exact Or.inl rfl | exact Or.inr rfl) (pe_c G_l_worth (hr.mono (by decide)) (by rfl) (pa_cons (pe_c G_l_row (hr.mono (by decide)) (by rfl) (pa_cons (pv 9) (pa_cons (pe_tup (pa_cons pe_int (pa_cons pe_int pa_nil))) pa_nil))) (pa_cons (pv 7) pa_nil)))) (pss_cons (ps_set (i := 11) sc_l_right.nd rfl (by first | exact Or.inl rfl | exact Or.inr rfl) (pe_op op_catT (pe_tup (pa_cons (pe_ix ix_list (pv 1) (pe_bm PySem.F.plainAttrs_list PySem.F.slot_list_index PySem.F.type_list_index mt_index (pv 8) (pa_cons (pv 2) pa_nil)) (fun _ _ => rfl)) pa_nil)) (pe_slice sl_tup (pv 9) (po_some pe_int) po_none))) (pss_cons (ps_set (i := 12) sc_l_right.nd rfl (by first | exact Or.inl rfl | exact Or.inr rfl) (pe_lst (pa_cons (pe_c G_does.pr (hr.mono (by decide)) (by rfl) (pa_cons (pv 7) (pa_cons (pv 9) pa_nil))) (pa_cons (pe_ck G_does (hr.mono (by decide)) (by rfl) (pk_cons (pv 9) (pk_cons (pv 7) pk_nil))) (pa_cons (pe_c G_does.pr (hr.mono (by decide)) (by rfl) (pa_cons (pv 7) (pa_cons (pv 11) pa_nil))) pa_nil))))) (pss_one (ps_if (pt_cmpR op_ne (pe_callB (call_repr_bools hgd hr) (by rfl) T.n_repr b_repr (pa_cons (pv 12) pa_nil)) (pe_callB (call_repr_bools hgd hr) (by rfl) T.n_repr b_repr (pa_cons (pe_lst (pa_cons (pe_cmpR op_ge (pe_ix ix_tup (pv 10) pe_int (fun _ _ => rfl)) pe_int (nomark _)) (pa_cons (pe_cmpR op_ge (pe_ix ix_tup (pv 10) pe_int (fun _ _ => rfl)) pe_int (nomark _)) (pa_cons (pe_cmpR op_le (pe_ix ix_tup (pv 10) pe_int (fun _ _ => rfl)) pe_int (nomark _)) pa_nil)))) pa_nil)) (nomark _)) (pss_one (ps_ret pe_bl)) pss_nil))))))) (pss_cons (ps_set (i := 3) sc_l_right.nd rfl (by first | exact Or.inl rfl | exact Or.inr rfl) (pe_c G_l_asks (hr.mono (by decide)) (by rfl) (pa_cons (pv 0) (pa_cons (pv 7) (pa_cons (pv 8) (pa_cons pe_int pa_nil)))))) (pss_cons (ps_set (i := 4) sc_l_right.nd rfl (by first | exact Or.inl rfl | exact Or.inr rfl) (pe_cmpR (op_eqD hr.units) (pe_lc (own := [("_law_ask_here", 9)]) (g := gName 9) rfl sc_l_right.nd (pi_tup (pv 3)) (blkOk_by (N := ["_law_vat_here", "_law_opposite", "_law_word", "_law_asks_here", "_law_due", "_law_own", "_law_head_here", "_law_jet_here", "_law_words", "_law_ask_here", "_law_worth_here", "_law_back", "_law_told", "_law_good"]) (sc := defScope st_l_right) (by decide +kernel)) (fun _ _ _ _ _ => pg_name (i := 9) sc_l_right.nd rfl (by first | exact Or.inl rfl | exact Or.inr rfl)) (fun _ _ _ _ _ => pts_one (pt_not (pt_val (pe_c G_l_does (hr.mono (by decide)) (by rfl) (pa_cons (pv 7) (pa_cons (pv 9) pa_nil)))))) (fun _ _ _ _ _ => (pv 9))) (pe_lst pa_nil) (nomark _))) (pss_cons (ps_if (pt_cmpR op_ne (pe_callB (call_repr_bools hgd hr) (by rfl) T.n_repr b_repr (pa_cons (pe_lst (pa_cons (pe_c G_does_all.pr (hr.mono (by decide)) (by rfl) (pa_cons (pv 7) (pa_cons (pv 3) pa_nil))) (pa_cons (pe_ck G_does_all (hr.mono (by decide)) (by rfl) (pk_cons (pv 3) (pk_cons (pv 7) pk_nil))) pa_nil))) pa_nil)) (pe_callB (call_repr_bools hgd hr) (by rfl) T.n_repr b_repr (pa_cons (pe_lst (pa_cons (pv 4) (pa_cons (pv 4) pa_nil))) pa_nil)) (nomark _)) (pss_one (ps_ret pe_bl)) pss_nil) (pss_cons (ps_set (i := 5) sc_l_right.nd rfl (by first | exact Or.inl rfl | exact Or.inr rfl) (pe_c G_l_head (hr.mono (by decide)) (by rfl) (pa_cons (pv 7) pa_nil))) (pss_cons (ps_for PassesOwn.never rfl (pi_list (pe_lst (pa_cons (pv 5) (pa_cons (pe_c G_l_mul (hr.mono (by decide)) (by rfl) (pa_cons (pv 5) (pa_cons (pe_tup (pa_cons pe_int (pa_cons pe_int pa_nil))) pa_nil))) (pa_cons (pe_c G_l_mul (hr.mono (by decide)) (by rfl) (pa_cons (pv 5) (pa_cons (pe_tup (pa_cons pe_int (pa_cons pe_int pa_nil))) pa_nil))) (pa_cons (pe_c G_l_above (hr.mono (by decide)) (by rfl) (pa_cons (pv 0) (pa_cons pe_int pa_nil))) pa_nil)))))) (pg_name (i := 6) sc_l_right.nd rfl (by first | exact Or.inl rfl | exact Or.inr rfl)) (pss_cons (ps_set (i := 13) sc_l_right.nd rfl (by first | exact Or.inl rfl | exact Or.inr rfl) (pe_and (pv 4) (pe_one (pe_not (pe_c G_l_less (hr.mono (by decide)) (by rfl) (pa_cons (pv 6) (pa_cons (pv 5) pa_nil))))))) (pss_one (ps_if (pt_cmpR op_ne (pe_callB (call_repr_bools hgd hr) (by rfl) T.n_repr b_repr (pa_cons (pe_lst (pa_cons (pe_c G_is_good.pr (hr.mono (by decide)) (by rfl) (pa_cons (pv 7) (pa_cons (pv 6) (pa_cons (pv 3) pa_nil)))) (pa_cons (pe_ck G_is_good (hr.mono (by decide)) (by rfl) (pk_cons (pv 3) (pk_cons (pv 6) (pk_cons (pv 7) pk_nil)))) pa_nil))) pa_nil)) (pe_callB (call_repr_bools hgd hr) (by rfl) T.n_repr b_repr (pa_cons (pe_lst (pa_cons (pv 13) (pa_cons (pv 13) pa_nil))) pa_nil)) (nomark _)) (pss_one (ps_ret pe_bl)) pss_nil)))) (pss_one (ps_ret (pe_and (pe_cmpR op_isBl (pe_c G_does_all.pr (hr.mono (by decide)) (by rfl) (pa_cons (pv 7) (pa_cons (pe_tup pa_nil) pa_nil))) pe_bl (nomark _)) (pe_one (pe_cmpR op_isBl (pe_c G_is_good.pr (hr.mono (by decide)) (by rfl) (pa_cons (pv 7) (pa_cons (pv 5) (pa_cons (pe_tup pa_nil) pa_nil)))) pe_bl (nomark _)))))))))))))), ?_⟩
    walk_at "st"
    refine u_l_jet hv fun j s b H1 hj b0 bs bb g1 v1 => ?_
    walk_at "rd"
    rename_i lw H2 n2 e2 h2 p3 H3 n3 e3 h3 lo H4 n4 e4 h4
    have lwa : lw ≠ a := new_ne v1 n2
    have v3 : VatAt H3 a := by walk_at "va"
    have loa : lo ≠ a := new_ne v3 n4
    have bs' : Bd 1000 s := bs.mono (by decide)
    have bb' : Bd 1000 b := bb.mono (by decide)
    have hlw : H4 lw = some (.lst six) := e4 _ _ (e3 _ _ h2)
    refine r_loopL (SqL.of hlw) (fun i σ' H' => ∃ u2 u3 u4 u5 u6 u9 u10 u11 u12 u13, σ' = [some (.ref a), some (.ref lo), u2, u3, u4, u5, u6, some j, some (.ref lw), u9, u10, u11, u12, u13] ∧
      VatAt H' a ∧ JetAt K H' j s b ∧ H' lw = some (.lst six) ∧ H' lo = some (.lst opp6) ∧ Go a H H') ?_ ?_ ?_ ?_
    · exact ⟨_, _, _, _, _, _, _, _, _, _, rfl, by walk_at "va", by walk_at "fa", hlw, h4, by walk_at "go"⟩
    · rintro i σ' H' ⟨_, _, _, _, _, _, _, _, _, _, _, _, _, q, _⟩
      exact SqL.of q
    · rintro i y σ' HL hy ⟨u2, u3, u4, u5, u6, u9, u10, u11, u12, u13, rfl, vL, jL, wL, oL, gL⟩
      have hsix : y ∈ six := List.mem_of_getElem? hy
      obtain ⟨z, z', rfl, hz', hno, hop⟩ := six_at hy
      have hz := hy
      walk_at "rd"
      refine u_l_draw vL (by decide) (by decide) fun d HD d0 d1 gD vD => ?_
      walk_at "rd"
      refine r_ite (fun _ => ?_) (fun _ => ?_)
      · walk_at "rd"
        rename_i pq Hq nq eq hq
        refine u_l_near_ask (by walk_at "va") (by walk_at "fa") b0 bs bb hq (new_ne vD nq) (by show 0 < 1; decide) (by show 1 ≤ 1000; decide) (fun u hu => by rw [List.mem_singleton.mp hu]; exact hsix) fun v k Hk hk ok hkw gk vk => ?_
        obtain ⟨us, hus, hargs, une, ul2⟩ := ask_split hk
        obtain ⟨b1, b2, b3⟩ := row_bd ok
        have ew : k.word = z := by
          have := List.mem_singleton.mp hkw
          exact V.str.inj this
        rw [ew] at hus
        walk_at "rd"
        refine u_l_row (by walk_at "fa") ok fun u5 H5 e5 h5 => ?_
        walk_at "rd"
        refine u_l_worth h5 (by walk_at "fa") b1 b2 b3 bs' bb' fun u6 H6 e6 h6 => ?_
        walk_at "rd"
        refine r_index (by walk_at "lg") (by rfl) hz hno ?_
        walk_at "rd"
        refine r_ixL (v := .str z') (SqL.of (by walk_at "lg")) (at_of (j := i) rfl hz') ?_
        walk_at "rd"
        refine r_tailT (by walk_at "fa") fun p7 H7 n7 e7 h7 => ?_
        refine r_catT (by walk_at "fa") (tp_of h7) (by simp) une (by show 1 + us.length ≤ 1000; omega) fun p8 H8 n8 e8 h8 => ?_
        have args_mid : ArgsAt K H8 us k := by walk_at "fa"
        have hback : AskAt K H8 (.ref p8) k.opp := by
          refine ask_join (us := us) ?_ (args_opp ?_)
          · rw [hop k ew]
            exact tp_of h8
          · exact args_mid
        have okk : k.opp.ok 300 := opp_ok ok
        walk_at "rd"
        refine u_does (by walk_at "fa") b0 (by walk_at "fa") bs' bb' ok fun H9 e9 => ?_
        walk_at "rd"
        refine u_does (by walk_at "fa") b0 (by walk_at "fa") bs' bb' ok fun H10 e10 => ?_
        walk_at "rd"
        refine u_does (by walk_at "fa") b0 (by walk_at "fa") bs' bb' okk fun H11 e11 => ?_
        walk_at "rd"
        refine r_repr3 (by walk_at "lg") ?_
        walk_at "rd"
        refine r_repr3 (by walk_at "lg") ?_
        walk_at "rd"
        refine r_F ?_ ?_
        · have t1 : decide (0 ≤ (worthOf k.row s b).num) = decide (k.done s b) := decide_eq_decide.mpr Rat.num_nonneg
          have t2 : decide ((worthOf k.row s b).num ≤ 0) = decide (k.opp.done s b) := decide_eq_decide.mpr (num_nonpos.trans (opp_done k s b).symm)
          rw [t1, t2, decide_eq_true rfl]
          rfl
        · walk_at "rd"
          exact ⟨_, _, _, _, _, _, _, _, _, _, rfl, by walk_at "va", by walk_at "fa", by walk_at "lg", by walk_at "lg", by walk_at "go"⟩
      · walk_at "rd"
        rename_i pq Hq nq eq hq
        have vq : VatAt Hq a := by walk_at "va"
        have pqa : pq ≠ a := new_ne vD nq
        refine u_l_size vq fun m Hm m0 m1 gm vm => ?_
        walk_at "rd"
        refine u_l_ask vm (by walk_at "lg") (new_ne vD nq) (by show 0 < 1; decide) (by show 1 ≤ 1000; decide) (fun u hu => by rw [List.mem_singleton.mp hu]; exact hsix) m0 m1 fun v k Hk hk ok hkw gk vk => ?_
        obtain ⟨us, hus, hargs, une, ul2⟩ := ask_split hk
        obtain ⟨b1, b2, b3⟩ := row_bd ok
        have ew : k.word = z := by
          have := List.mem_singleton.mp hkw
          exact V.str.inj this
        rw [ew] at hus
        walk_at "rd"
        refine u_l_row (by walk_at "fa") ok fun u5 H5 e5 h5 => ?_
        walk_at "rd"
        refine u_l_worth h5 (by walk_at "fa") b1 b2 b3 bs' bb' fun u6 H6 e6 h6 => ?_
        walk_at "rd"
        refine r_index (by walk_at "lg") (by rfl) hz hno ?_
        walk_at "rd"
        refine r_ixL (v := .str z') (SqL.of (by walk_at "lg")) (at_of (j := i) rfl hz') ?_
        walk_at "rd"
        refine r_tailT (by walk_at "fa") fun p7 H7 n7 e7 h7 => ?_
        refine r_catT (by walk_at "fa") (tp_of h7) (by simp) une (by show 1 + us.length ≤ 1000; omega) fun p8 H8 n8 e8 h8 => ?_
        have args_mid : ArgsAt K H8 us k := by walk_at "fa"
        have hback : AskAt K H8 (.ref p8) k.opp := by
          refine ask_join (us := us) ?_ (args_opp ?_)
          · rw [hop k ew]
            exact tp_of h8
          · exact args_mid
        have okk : k.opp.ok 300 := opp_ok ok
        walk_at "rd"
        refine u_does (by walk_at "fa") b0 (by walk_at "fa") bs' bb' ok fun H9 e9 => ?_
        walk_at "rd"
        refine u_does (by walk_at "fa") b0 (by walk_at "fa") bs' bb' ok fun H10 e10 => ?_
        walk_at "rd"
        refine u_does (by walk_at "fa") b0 (by walk_at "fa") bs' bb' okk fun H11 e11 => ?_
        walk_at "rd"
        refine r_repr3 (by walk_at "lg") ?_
        walk_at "rd"
        refine r_repr3 (by walk_at "lg") ?_
        walk_at "rd"
        refine r_F ?_ ?_
        · have t1 : decide (0 ≤ (worthOf k.row s b).num) = decide (k.done s b) := decide_eq_decide.mpr Rat.num_nonneg
          have t2 : decide ((worthOf k.row s b).num ≤ 0) = decide (k.opp.done s b) := decide_eq_decide.mpr (num_nonpos.trans (opp_done k s b).symm)
          rw [t1, t2, decide_eq_true rfl]
          rfl
        · walk_at "rd"
          exact ⟨_, _, _, _, _, _, _, _, _, _, rfl, by walk_at "va", by walk_at "fa", by walk_at "lg", by walk_at "lg", by walk_at "go"⟩
    · rintro σ' HL ⟨u2, u3, u4, u5, u6, u9, u10, u11, u12, u13, rfl, vL, jL, wL, oL, gL⟩
      walk_at "rd"
      refine u_l_asks vL jL b0 bs bb wL lwa (by decide) (by decide) (fun v hv => hv) fun va ks H5 ht hok hl8 g5 v5 => ?_
      have j5 : JetAt K H5 j s b := by walk_at "fa"
      obtain ⟨us, hus, hul, hua⟩ := id ht
      walk_at "rd"
      refine r_compF (p := fun i => !((ks[i]?).map fun k => decide (k.done s b)).getD true) hus (by omega) (fun _ => rfl) ?_ ?_ ?_
      · intro i y H6 QT hy e q
        obtain ⟨k, ek, hk⟩ := hua i y hy
        walk_at "rd"
        refine u_l_does (by walk_at "fa") (hk.nx (Nx.of e)) bs' bb' (hok k (List.mem_of_getElem? ek)) fun H7 e7 => ?_
        walk_at "rd"
        have q' := q H7 e7
        rw [ek] at q'
        exact q'
      · intro i y H6 Q' hy e q
        walk_at "rd"
        exact q
      · intro L H6 ys hL e6 hL' hmem hiff hlen
        have due : ys.isEmpty = allDone ks s b := by
          unfold allDone
          rw [← all_by_place, Bool.eq_iff_iff, List.isEmpty_iff, hiff, List.all_eq_true, hul]
          constructor
          · intro h i hi
            have := h i (List.mem_range.mp hi)
            simpa using this
          · intro h i hi
            have := h i (List.mem_range.mpr hi)
            simpa using this
        walk_at "rd"
        rename_i p7 H7 n7 e7 h7
        refine r_eqNil (by walk_at "ls") (by walk_at "ls") (fun v hv => ?_) ?_
        · obtain ⟨i, hi, ei⟩ := List.mem_iff_getElem.mp (hmem v hv)
          obtain ⟨k, _, hk⟩ := hua i v (by rw [List.getElem?_eq_getElem hi, ei])
          exact ⟨k, hk.nx (Nx.of (e6.trans e7))⟩
        · rw [due]
          walk_at "rd"
          refine u_does_all (by walk_at "fa") b0 (by walk_at "fa") bs' bb' hok hl8 fun H8 e8 => ?_
          walk_at "rd"
          refine u_does_all (by walk_at "fa") b0 (by walk_at "fa") bs' bb' hok hl8 fun H9 e9 => ?_
          walk_at "rd"
          refine r_repr2 (by walk_at "lg") ?_
          walk_at "rd"
          refine r_repr2 (by walk_at "lg") ?_
          walk_at "rd"
          refine r_F (by rw [decide_eq_true rfl]; rfl) ?_
          walk_at "rd"
          have ho0 : 0 < headOf s b := head_pos b0
          have hob : Bd 100 (headOf s b) := head_bd31 b0 bs bb
          refine u_l_head (by walk_at "fa") b0 bs' bb' fun uo Ho eo ho => ?_
          walk_at "rd"
          rename_i pa Ha na ea ha
          have fa : Fr K Ha (.ref pa) ⟨8, 7, by decide, by decide⟩ := fr_lit ha rfl rfl
          have ba : Bd 4 ⟨8, 7, by decide, by decide⟩ := by unfold Bd; decide
          refine u_l_mul (by walk_at "fa") (by walk_at "fa") hob ba (by decide) fun ub Hb eb hb => ?_
          walk_at "rd"
          rename_i pc Hc nc ec hc
          have fc : Fr K Hc (.ref pc) ⟨6, 7, by decide, by decide⟩ := fr_lit hc rfl rfl
          have bc : Bd 4 ⟨6, 7, by decide, by decide⟩ := by unfold Bd; decide
          refine u_l_mul (by walk_at "fa") (by walk_at "fa") hob bc (by decide) fun ud Hd ed hd => ?_
          walk_at "rd"
          refine u_l_above (by walk_at "va") (by decide) (by decide) fun ue qe He he q0e bqe ge ve => ?_
          walk_at "rd"
          rename_i lf Hf nf ef hf
          have hin : ∀ y ∈ [uo, ub, ud, ue], ∃ q, Fr K Hf y q ∧ 0 < q ∧ Bd 1000 q := by
            intro y hy
            simp only [List.mem_cons, List.not_mem_nil, or_false] at hy
            rcases hy with rfl | rfl | rfl | rfl
            · exact ⟨_, by walk_at "fa", ho0, hob.mono (by decide)⟩
            · exact ⟨_, by walk_at "fa", Rat.mul_pos ho0 (by decide), (Bd.mul hob ba).mono (by decide)⟩
            · exact ⟨_, by walk_at "fa", Rat.mul_pos ho0 (by decide), (Bd.mul hob bc).mono (by decide)⟩
            · exact ⟨_, by walk_at "fa", q0e, bqe.mono (by decide)⟩
          have jf : JetAt K Hf j s b := by walk_at "fa"
          have tf : Tuple K Hf va ks := by walk_at "fa"
          have of : Fr K Hf uo (headOf s b) := by walk_at "fa"
          have gf : Go a H Hf := by walk_at "go"
          refine r_loopL (SqL.of hf) (fun i σ' H' => Same Hf H' ∧ ∃ u6 u13, σ' = [some (.ref a), some (.ref lo), u2, some va, some (.bl (allDone ks s b)), some uo, u6, some j, some (.ref lw), u9, u10, u11, u12, u13]) ?_ ?_ ?_ ?_
          · exact ⟨Same.refl _, _, _, rfl⟩
          · rintro i σ' H' ⟨e, _⟩
            exact SqL.of (e _ _ hf)
          · rintro i y σ' Hg hy ⟨eg, u6, u13, rfl⟩
            obtain ⟨q, hq, q0, bq⟩ := hin y (List.mem_of_getElem? hy)
            have jg : JetAt K Hg j s b := by walk_at "fa"
            have tg : Tuple K Hg va ks := by walk_at "fa"
            have og : Fr K Hg uo (headOf s b) := by walk_at "fa"
            have qg : Fr K Hg y q := by walk_at "fa"
            walk_at "rd"
            refine r_ite (fun hd => ?_) (fun hd => ?_)
            · walk_at "rd"
              refine u_is_good (by walk_at "fa") b0 (by walk_at "fa") q0 bq (by walk_at "fa") bs' bb' hok hl8 fun Hi ei => ?_
              walk_at "rd"
              refine u_is_good (by walk_at "fa") b0 (by walk_at "fa") q0 bq (by walk_at "fa") bs' bb' hok hl8 fun Hj ej => ?_
              walk_at "rd"
              refine r_repr2 (by walk_at "lg") ?_
              walk_at "rd"
              refine r_repr2 (by walk_at "lg") ?_
              walk_at "rd"
              refine r_F ?_ ?_
              · rw [hd, Bool.and_true, decide_eq_true rfl]; rfl
              · walk_at "rd"
                exact ⟨by walk_at "sm", _, _, rfl⟩
            · walk_at "rd"
              refine u_is_good (by walk_at "fa") b0 (by walk_at "fa") q0 bq (by walk_at "fa") bs' bb' hok hl8 fun Hi ei => ?_
              walk_at "rd"
              refine u_is_good (by walk_at "fa") b0 (by walk_at "fa") q0 bq (by walk_at "fa") bs' bb' hok hl8 fun Hj ej => ?_
              walk_at "rd"
              refine r_repr2 (by walk_at "lg") ?_
              walk_at "rd"
              refine r_repr2 (by walk_at "lg") ?_
              walk_at "rd"
              refine r_F ?_ ?_
              · rw [hd, Bool.and_false, decide_eq_true rfl]; rfl
              · walk_at "rd"
                exact ⟨by walk_at "sm", _, _, rfl⟩
          · rintro σ' Hg ⟨eg, u6, u13, rfl⟩
            walk_at "rd"
            rename_i ph Hh nh eh hh
            refine u_does_all (ks := []) (by walk_at "fa") b0 ⟨[], tp_of hh, rfl, fun i v e => by simp at e⟩ bs' bb' (fun k hk => absurd hk List.not_mem_nil) (by decide) fun Hi ei => ?_
            walk_at "rd"
            rename_i pk Hk nk ek hk
            refine u_is_good (ks := []) (by walk_at "fa") b0 (by walk_at "fa") ho0 (hob.mono (by decide)) ⟨[], tp_of hk, rfl, fun i v e => by simp at e⟩ bs' bb' (fun k hk => absurd hk List.not_mem_nil) (by decide) fun Hl el => ?_
            walk_at "rd"
            have ev : decide ((!decide (headOf s b < headOf s b) && allDone [] s b) = true) = true := by
              rw [decide_eq_false (Rat.lt_irrefl (a := headOf s b))]
              rfl
            rw [ev]
            exact c _ (by walk_at "go")
end
end K17
/-! The law; its entrance. -/
namespace K17
set_option linter.all false
set_option maxRecDepth 100000
set_option maxHeartbeats 8000000
open PySem PySem.Spec PyProof.Rows L2
def sp_law (K : PySem.W.Frag) : Sp := fun vs H Q _ => ∃ (a : Addr) (ns : List Int), vs = [.ref a] ∧ SqL K H a (ns.map V.int) ∧ ns.length ≤ 63 ∧ ∀ H', Q (.bl true) H'
local macro_rules | `(tactic| walk_at "bd") => `(tactic| first
  | with_reducible assumption
  | exact Bd.zero | exact Bd.one | exact Bd.two | exact Bd.four
  | ((with_reducible apply Bd.add) <;> walk_at "bd")
  | ((with_reducible apply Bd.sub) <;> walk_at "bd")
  | ((with_reducible apply Bd.mul) <;> walk_at "bd")
  | ((with_reducible apply Bd.div); (· walk_at "bd"); (· walk_at "bd"); (· walk_at "po"))
  | ((with_reducible apply Bd.neg) <;> walk_at "bd"))
local macro_rules | `(tactic| walk_at "bi") => `(tactic| first
  | with_reducible assumption
  | ((with_reducible apply Bd.bn) <;> walk_at "bd")
  | ((with_reducible apply Bd.bd) <;> walk_at "bd")
  | ((with_reducible apply Bi.mul) <;> walk_at "bi")
  | ((with_reducible apply Bi.add) <;> walk_at "bi")
  | ((with_reducible apply Bi.sub) <;> walk_at "bi")
  | ((with_reducible apply Bi.neg) <;> walk_at "bi"))
local macro_rules | `(tactic| walk_at "va") => `(tactic| first
  | with_reducible assumption
  | ((with_reducible apply VatAt.back); (· with_reducible assumption); walk_at "va"))
local macro_rules | `(tactic| walk_at "nx") => `(tactic| first
  | ((with_reducible apply Nx.of); with_reducible assumption)
  | ((with_reducible apply Nx.gov); (· with_reducible assumption); (· walk_at "va")))
local macro_rules | `(tactic| walk_at "fa") => `(tactic| first
  | with_reducible assumption
  | ((with_reducible apply tp_of); with_reducible assumption)
  | ((with_reducible apply Txt.t_ZERO); with_reducible assumption) | ((with_reducible apply Txt.t_ONE); with_reducible assumption) | ((with_reducible apply Txt.t_TWO); with_reducible assumption) | ((with_reducible apply Txt.t_FOUR); with_reducible assumption) | ((with_reducible apply Txt.t_UNIT); with_reducible assumption) | ((with_reducible apply Txt.t_PLACED); with_reducible assumption) | ((with_reducible apply Txt.t_STEEP); with_reducible assumption) | ((with_reducible apply Txt.t_BENT); with_reducible assumption) | ((with_reducible apply Txt.t_LEAST); with_reducible assumption)
  | ((with_reducible apply Fr.back); (· walk_at "nx"); walk_at "fa")
  | ((with_reducible apply Tp.back); (· walk_at "nx"); walk_at "fa")
  | ((with_reducible apply JetAt.back); (· walk_at "nx"); walk_at "fa")
  | ((with_reducible apply AskAt.back); (· walk_at "nx"); walk_at "fa")
  | ((with_reducible apply ArgsAt.back); (· walk_at "nx"); walk_at "fa")
  | ((with_reducible apply Tuple.back); (· walk_at "nx"); walk_at "fa"))
local macro_rules | `(tactic| walk_at "sm") => `(tactic| first
  | with_reducible assumption
  | with_reducible exact Same.refl _
  | (apply Same.back; (· with_reducible assumption); walk_at "sm"))
local macro_rules | `(tactic| walk_at "ls") => `(tactic| first
  | with_reducible assumption
  | ((with_reducible apply ls_back); (· with_reducible assumption); walk_at "ls"))
local macro_rules | `(tactic| walk_at "go") => `(tactic| first
  | with_reducible assumption
  | with_reducible exact Go.refl _
  | ((with_reducible apply Go.of); with_reducible assumption)
  | ((with_reducible apply Go.backS); (· with_reducible assumption); walk_at "go")
  | ((with_reducible apply Go.back); (· with_reducible assumption); walk_at "go"))
local macro_rules | `(tactic| walk_at "lg") => `(tactic| first
  | with_reducible assumption
  | ((with_reducible apply ls_back); (· with_reducible assumption); walk_at "lg")
  | ((with_reducible apply ls_go); (· with_reducible assumption); (· with_reducible assumption); walk_at "lg"))
local macro_rules | `(tactic| walk_at "sq") => `(tactic| first
  | with_reducible assumption
  | ((with_reducible apply SqL.of); walk_at "lg")
  | ((with_reducible apply sq_back); (· with_reducible assumption); walk_at "sq"))
local macro_rules | `(tactic| walk_at "fx") => `(tactic| first
  | walk_at "fa"
  | ((with_reducible apply Fr.tp); walk_at "fa"))
local macro_rules | `(tactic| walk_at "rd1") => `(tactic| first
  | with_reducible refine r_ret ?_ | with_reducible refine r_seq ?_ | with_reducible refine r_asg ?_ | with_reducible refine r_drop ?_ | with_reducible refine r_ifS ?_ | with_reducible refine r_par ?_ | with_reducible refine r_next ?_
  | with_reducible refine r_name ?_ | with_reducible refine r_gcons ?_ | with_reducible refine r_gnil ?_
  | ((with_reducible apply r_var); (· rfl))
  | with_reducible refine r_c ?_ | with_reducible refine r_op ?_ | with_reducible refine r_un ?_ | with_reducible refine r_call ?_ | with_reducible refine r_cb ?_ | with_reducible refine r_cons ?_ | with_reducible refine r_nil ?_
  | with_reducible refine r_tup ?_ | with_reducible refine r_lst ?_ | with_reducible refine r_if ?_ | with_reducible refine r_test ?_ | with_reducible refine r_B ?_ | with_reducible refine r_and ?_ | with_reducible refine r_or ?_ | with_reducible refine r_not ?_
  | with_reducible refine r_for ?_ | with_reducible refine r_iTup ?_ | with_reducible refine r_iList ?_ | with_reducible refine r_iEnumT ?_ | with_reducible refine r_iRng1 ?_ | with_reducible refine r_lcT ?_ | with_reducible refine r_lcL ?_ | with_reducible refine r_lcR ?_
  | with_reducible refine r_andV ?_ | with_reducible refine r_orV ?_ | with_reducible refine r_notV ?_ | with_reducible refine r_bl ?_
  | with_reducible refine r_I0 ?_ | with_reducible refine r_U ?_ | with_reducible refine r_par2 ?_
  | ((with_reducible refine r_eq ?_ ?_); (· rfl)) | ((with_reducible refine r_ne ?_ ?_); (· rfl))
  | ((with_reducible apply r_ixT); (· walk_at "fx"); (· first | rfl | exact atI_zero _ _))
  | ((with_reducible apply r_gtup); (· walk_at "fx"); (· rfl))
  | ((with_reducible apply r_mulW); (· walk_at "bi"); (· walk_at "bi"); (· first | omega | decide))
  | ((with_reducible apply r_isi_tt); (· walk_at "fx")) | with_reducible refine r_isi_ii ?_ | with_reducible refine r_isi_ib ?_ | with_reducible refine r_isi_ss ?_
  | with_reducible refine r_isNon ?_ | with_reducible refine r_isBl ?_
  | ((with_reducible apply r_lenT); (· walk_at "fx")) | with_reducible refine r_abs ?_ | with_reducible refine r_max ?_ | with_reducible refine r_min ?_ | with_reducible refine r_int ?_
  | ((with_reducible apply r_inT); (· walk_at "fx"); (· rfl); (· rfl)) | ((with_reducible apply r_niT); (· walk_at "fx"); (· rfl); (· rfl))
  | ((with_reducible apply r_inL); (· walk_at "ls"); (· rfl); (· rfl))
  | ((with_reducible apply r_tupOfL); (· walk_at "ls"); intro _ _ _ _ _)
  | ((with_reducible refine r_newT ?_ ?_); (· exact Nat.le_of_ble_eq_true rfl); intro _ _ _ _ _)
  | ((with_reducible refine r_newL ?_ ?_); (· exact Nat.le_of_ble_eq_true rfl); intro _ _ _ _ _)
  | ((with_reducible refine r_T ?_ ?_); (· first | rfl | with_reducible assumption))
  | ((with_reducible refine r_F ?_ ?_); (· first | rfl | with_reducible assumption)))
local macro_rules | `(tactic| walk_at "po") => `(tactic| first
  | with_reducible assumption
  | ((with_reducible apply Rat.mul_pos) <;> walk_at "po")
  | exact two_pos | exact four_pos)
local macro_rules | `(tactic| walk_at "sz") => `(tactic| first | omega | decide)
local macro_rules | `(tactic| walk_at "rd1") => `(tactic| first
  | ((with_reducible apply u_ratio_sum); (· walk_at "fa"); (· walk_at "fa"); (· walk_at "bd"); (· walk_at "bd"); (· walk_at "sz"); intro _ _ _ _)
  | ((with_reducible apply u_ratio_product); (· walk_at "fa"); (· walk_at "fa"); (· walk_at "bd"); (· walk_at "bd"); (· walk_at "sz"); intro _ _ _ _)
  | ((with_reducible apply u_ratio_over); (· walk_at "fa"); (· walk_at "fa"); (· walk_at "bd"); (· walk_at "bd"); (· walk_at "sz"); (· walk_at "po"); intro _ _ _ _)
  | ((with_reducible apply u_is_lower); (· walk_at "fa"); (· walk_at "fa"); (· walk_at "bd"); (· walk_at "bd"); (· walk_at "sz"))
  | ((with_reducible apply u_ratio_back); (· walk_at "fa"); intro _ _ _ _)
  | ((with_reducible apply u_is_ratio); (· walk_at "fa"); intro _ _))
local macro_rules | `(tactic| walk_at "rd1") => `(tactic| first
  | ((with_reducible apply u_l_add); (· walk_at "fa"); (· walk_at "fa"); (· walk_at "bd"); (· walk_at "bd"); (· walk_at "sz"); intro _ _ _ _)
  | ((with_reducible apply u_l_sub); (· walk_at "fa"); (· walk_at "fa"); (· walk_at "bd"); (· walk_at "bd"); (· walk_at "sz"); intro _ _ _ _)
  | ((with_reducible apply u_l_mul); (· walk_at "fa"); (· walk_at "fa"); (· walk_at "bd"); (· walk_at "bd"); (· walk_at "sz"); intro _ _ _ _)
  | ((with_reducible apply u_l_div); (· walk_at "fa"); (· walk_at "fa"); (· walk_at "bd"); (· walk_at "bd"); (· walk_at "sz"); (· walk_at "po"); intro _ _ _ _)
  | ((with_reducible apply u_l_less); (· walk_at "fa"); (· walk_at "fa"); (· walk_at "bd"); (· walk_at "bd"); (· walk_at "sz"))
  | ((with_reducible apply u_l_minus); (· walk_at "fa"); intro _ _ _ _))
local macro_rules | `(tactic| walk_at "rd1") => `(tactic| first
  | with_reducible refine r_callR ?_ | with_reducible refine r_bm ?_ | ((with_reducible apply r_tyL); (· walk_at "sq"))
  | with_reducible refine r_sl ?_ | with_reducible refine r_part ?_ | with_reducible refine r_nopart ?_ | with_reducible refine r_some ?_ | with_reducible refine r_gsub ?_
  | ((with_reducible apply r_slL); (· walk_at "sq"); intro _ _ _ _ _)
  | ((with_reducible apply r_mulL); (· first | exact Or.inl (by decide) | exact Or.inr (by decide)))
  | ((with_reducible apply r_powL); (· exact ⟨by decide, by decide, by decide⟩))
  | ((with_reducible apply r_lenL); (· walk_at "sq"))
  | ((with_reducible apply r_ixL); (· walk_at "sq"); (· rfl))
  | ((with_reducible apply r_mod); (· first | with_reducible assumption | decide | omega))
  | ((with_reducible apply r_setL); (· walk_at "lg"); (· rfl); intro _ _ _)
  | ((with_reducible apply r_cat); (· walk_at "ls"); (· walk_at "ls"); (· first | omega | exact Nat.le_of_ble_eq_true rfl); intro _ _ _ _ _))
local macro_rules | `(tactic| walk_at "rd") => `(tactic| repeat walk_at "rd1")
local macro_rules | `(tactic| walk_at "st") => `(tactic| ((try simp only [cx_K]); walk_at "rd"))

section
variable {P : Program} {w : World} {K : PySem.W.Frag} {mg : Str → Option Value} {base : Heap} {z0 z1 z2 z4 zu zp zs zb zl : Addr}
theorem ok_law (D : Df K mg "law" st_law) (T : Txt K mg z0 z1 z2 z4 zu zp zs zb zl) (G_l_right : PrG P w K mg base 9 "_law_right" ["_law_vat_here"] (sp_l_right K)) (G_l_vat : Pr P w K mg base 1 "_law_vat" ["_law_script", "_law_lap"] (sp_l_vat K)) : PrG P w K mg base 10 "law" ["_law_script"] (sp_law K) := by
  refine prg_of D sc_law ?_ (fun _ _ _ _ _ _ us hl => match us, hl with | [_], _ => rfl) (fun f cdv A outer s H vs Q E hgd hr h => ?_)
  · rintro vs H Q E ⟨a, ns, rfl, _⟩
    rfl
  · obtain ⟨a, ns, rfl, hs, hl, c⟩ := h
    refine ⟨_, (pss_one (ps_ret (pe_callB (cr_all rfl) (by rfl) T.n_all b_all (pa_cons (pe_lc (own := [("_law_lap", 1)]) (g := gName 1) rfl sc_law.nd (pi_range1 (by rfl) T.n_range (pa_cons (pe_callB (cl_max rfl) (by rfl) T.n_max b_max (pa_cons pe_int (pa_cons (pe_callB (cl_min rfl) (by rfl) T.n_min b_min (pa_cons (pe_callB cl_len (by rfl) T.n_len b_len (pa_cons (pv 0) pa_nil)) (pa_cons pe_int pa_nil))) pa_nil))) pa_nil)) (blkOk_by (N := ["_law_script", "_law_lap"]) (sc := defScope st_law) (by decide +kernel)) (fun _ _ _ _ _ => pg_name (i := 1) sc_law.nd rfl (by first | exact Or.inl rfl | exact Or.inr rfl)) (fun _ _ _ _ _ => pts_nil) (fun _ _ _ _ _ => (pe_cg G_l_right (hr.mono (by decide)) (by rfl) hgd (pa_cons (pe_c G_l_vat (hr.mono (by decide)) (by rfl) (pa_cons (pv 0) (pa_cons (pv 1) pa_nil))) pa_nil)))) pa_nil)))), ?_⟩
    walk_at "st"
    refine r_compR (by split <;> (try split) <;> omega) (by split <;> (try split) <;> omega) (fun _ z _ => z = .bl true) (fun _ _ _ _ _ h => h) (fun _ => rfl) ?_ ?_
    · intro i H1 Q' hi e q
      have hi3 : i < 3 := by
        split at hi <;> (try split at hi) <;> omega
      rw [Int.zero_add]
      walk_at "rd"
      refine u_l_vat (e.seq hs) hl hi3 fun p H2 n2 e2 v2 => ?_
      walk_at "rd"
      refine u_l_right v2 fun H3 g3 => ?_
      exact q _ _ (fun b o h => g3 b o (e2 _ _ h) (ne_of_none h n2)) rfl
    · intro L H' ys hL e hL' hl' hr'
      walk_at "rd"
      refine r_allF (fun _ => true) hL' hr' ?_
      rw [List.all_eq_true.mpr fun _ _ => rfl]
      exact c _
end
/-- the law's call, from what the law's def promises where no guard is around -/
theorem enter {P : Program} {w : World} {K : PySem.W.Frag} {mg mb : Str → Option Value} {k : Nat} {x y : Str} {sp : Sp} {s₁ : Shared} {vs : List Value} {ns : List Int} {a fa : Addr}
    (KX : K.In s₁.heap) (hns : s₁.heap.Ns mainGlobals mg) (hb : s₁.heap.Ns builtinsNs mb) (hbb : ∀ x : Str, x ≠ "__name__" → mb x = bootBuiltins x) (hlim : s₁.heap.NoLimit) (hg : s₁.gens = #[])
    (ha : s₁.heap.get? a = some { cls := .type "list", data := .seq vs.toArray }) (hi : IntsAre vs ns) (hl : ns.length ≤ sizeLine) (hr : Room k callerA) (hx : mg x = some (.ref fa))
    (F : ∀ base : Heap, K.In base → base.Ns mainGlobals mg → PrG P w K mg base k x [y] sp) (hsp : ∀ H : Hp, SqL K H a (ns.map V.int) → sp [.ref a] H (fun v _ => v = .bl true) fun _ _ _ => False) :
    codeAny (model P w) callerA (.call (.ref fa) ⟨[.ref a], []⟩) (fun r s' => r = .ok (.ret (.bool true)) ∧ OldK s₁.heap s'.heap ∧ s'.os = s₁.os ∧ AllBare s'.gens) s₁ := by
  have lv := hi.length
  obtain ⟨H, hS, hok, hH⟩ : ∃ H : Hp, SqL K H a (ns.map V.int) ∧ HOk P w H s₁.heap ∧ ∀ b u, H b = some u → b = a ∧ K.lookup a = none ∧ ∃ o xs, u = .frz o (.lst xs) := by
    cases e : K.lookup a with
    | some o =>
      have eo := KX a o e
      rw [ha] at eo
      cases eo
      refine ⟨fun _ => none, .inr ⟨_, vs.toArray, _, e, rfl, rfl, rfl, by rw [List.size_toArray, lv]; exact hl, by simpa using vals_ints hi⟩, fun b u z => (by cases (show (none : Option HO) = some u from z)), fun b u z => (by cases (show (none : Option HO) = some u from z))⟩
    | none =>
      refine ⟨fun b => if b = a then some (.frz { cls := .type "list", data := .seq vs.toArray } (.lst (ns.map V.int))) else none, .inl (.inr ⟨_, if_pos rfl⟩), fun b u z => ?_, fun b u z => ?_⟩
      · by_cases q : b = a
        · subst q
          have z' := (if_pos rfl).symm.trans z
          cases z'
          exact ⟨ha, by rw [List.length_map]; exact hl, vs, _, vals_ints hi, ha⟩
        · have z' := (if_neg q).symm.trans z
          cases z'
      · by_cases q : b = a
        · have z' := (if_pos q).symm.trans z
          cases z'
          exact ⟨q, rfl, _, _, rfl⟩
        · have z' := (if_neg q).symm.trans z
          cases z'
  have free : ∀ b, b ≠ a ∨ K.lookup a ≠ none → H b = none := fun b h => by
    cases q : H b with
    | none => rfl
    | some u =>
      obtain ⟨e1, e2, _⟩ := hH b u q
      rcases h with h | h
      · exact absurd e1 h
      · exact absurd e2 h
  have nsb : ∀ {b : Addr} {m : Str → Option Value}, s₁.heap.Ns b m → (hidT s₁.heap H).Ns b m := fun {b m} h => by
    obtain ⟨o, es, ep, e, d, r⟩ := h
    refine ⟨o, es, ep, hidT_get e (free b (.inl fun z => ?_)), d, r⟩
    subst z
    rw [ha] at e
    cases e
    cases d
  have kin : K.In (hidT s₁.heap H) := fun b o e => hidT_get (KX b o e) (by
    by_cases z : b = a
    · subst z
      exact free b (.inr (by rw [e]; simp))
    · exact free b (.inl z))
  have hM : Mod K mg (hidT s₁.heap H) := ⟨kin, nsb hns, ⟨mb, nsb hb, hbb⟩, let ⟨mc, h1, h2⟩ := hlim; ⟨mc, nsb h1, h2⟩⟩
  have e0 : Env0 P w K mg (hidT s₁.heap H) callerA [] s₁ H := ⟨rfl, hM, fun b o e => of_hidT e, Nat.le_of_eq (hidT_size _ _), trivial, fun b z => (by cases z), hok, .of_eq hg⟩
  obtain ⟨f, fd, m, kp, bd, len, run⟩ := F _ kin hM.glob
  rw [hx] at m
  cases m
  refine codeAny_mono (run callerA [] s₁ H ⟨[.ref a], []⟩ [.ref a] [.ref a] _ _ rfl hr e0 (bd s₁ [.ref a] KX rfl) (.cons rfl .nil) (hsp H hS)) fun r s' h => ?_
  rcases r with e | fl
  · exact h.elim
  · cases fl with
    | next => exact h.elim
    | brk => exact h.elim
    | cont => exact h.elim
    | ret u =>
      obtain ⟨v, H', os, bare, un, hok', rv, q⟩ := h
      obtain rfl : v = .bl true := q
      obtain rfl : u = Value.bool true := rv
      refine ⟨rfl, OldK.of_keep fun b o e => ?_, os, bare⟩
      cases q : H b with
      | none => exact un.keep b o e q (by intro z; cases z) (by simp)
      | some u =>
        obtain ⟨_, _, ob, xs, rfl⟩ := hH b u q
        obtain ⟨e1, _⟩ := hok b _ q
        obtain ⟨e2, _⟩ := hok' b _ (un.frzs b ob _ q)
        rw [e] at e1
        cases e1
        exact e2
/-- the goal that k_head leaves -/
theorem walk_g {l : PySem.W.OpenLaw} {n k : Nat} {q : Program} {loose : List Str} {XP : (Str → Option Value) → Heap → Prop} {YP : World → Heap → Prop} {d : DefRec} {K : Params → PySem.W.Frag} {sp : PySem.W.Frag → Sp} {y : Str}
    (hn : l.most = some n) (hn2 : n ≤ sizeLine) (hdf : d.params.defaults = []) (hr : Room k callerA) (hY : ∀ (w : World) (h : Heap), YP w h → (K w.params).In h)
    (F : ∀ (w : World) (mg : Str → Option Value) (h : Heap), (K w.params).In h → h.Ns mainGlobals mg → ∀ base : Heap, (K w.params).In base → base.Ns mainGlobals mg → PrG l.prog w (K w.params) mg base k d.name [y] (sp (K w.params)))
    (hsp : ∀ (K : PySem.W.Frag) (H : Hp) (a : Addr) (ns : List Int), ns.length ≤ n → SqL K H a (ns.map V.int) → sp K [.ref a] H (fun v _ => v = .bl true) fun _ _ _ => False) :
    PySem.W.WalkO q loose XP YP l.row.toRowW d [] (fun f vs => PySem.call f vs) := by
  refine Att.attach_call hn hdf fun w s₀ s₁ mg mb fa o pm cd doc a vs ns G Y ho hd hcd hmg hobj hints hlen hg => ?_
  have KX := hY w _ Y
  exact enter KX G.T.g G.T.b G.T.builtins G.T.nolimit hg hobj hints (Nat.le_trans hlen hn2) hr hmg (F w mg _ KX G.T.g) fun H hS => hsp _ H a ns hlen hS
end K17
/-! All defs together. -/
namespace K17
set_option linter.all false
set_option maxRecDepth 100000
set_option maxHeartbeats 8000000
open PySem PySem.Spec PyProof.Rows L2
theorem df_mk {K : PySem.W.Frag} {mg : Str → Option Value} {h : Heap} {x : Str} {st : Stmt} {f : Addr} {oc : Value} {od an : Option Addr} {osl : Array (Option Value)} {kV doc pm cdv ct : Value} (X : K.In h) (G : h.Ns mainGlobals mg)
    (a : PySem.W.nsIn K mainGlobals x = some (some (.ref f))) (l : K.lookup f = some ⟨oc, od, .func (PySem.W.fnOf x x (defArgs st) (defBody st) (defScope st) .none kV doc pm an cdv ct), osl⟩) (c : PySem.W.codeIn K cdv x = true) (k : PySem.W.keepIn K (.ref f) = true) : Df K mg x st :=
  ⟨f, _, fun_mk l c k, PySem.W.mg_of X G a⟩
theorem txt_mk {K : PySem.W.Frag} {mg : Str → Option Value} {h : Heap} {z0 z1 z2 z4 zu zp zs zb zl : Addr} {t8 : Tok} {t_ZERO_0 t_ZERO_1 : Tok} {dd_ZERO : Option Addr} {nn_ZERO : Nat} {sl_ZERO : Array (Option Value)} {t_ONE_0 t_ONE_1 : Tok} {dd_ONE : Option Addr} {nn_ONE : Nat} {sl_ONE : Array (Option Value)} {t_TWO_0 t_TWO_1 : Tok} {dd_TWO : Option Addr} {nn_TWO : Nat} {sl_TWO : Array (Option Value)} {t_FOUR_0 t_FOUR_1 : Tok} {dd_FOUR : Option Addr} {nn_FOUR : Nat} {sl_FOUR : Array (Option Value)} {t_UNIT_0 t_UNIT_1 : Tok} {dd_UNIT : Option Addr} {nn_UNIT : Nat} {sl_UNIT : Array (Option Value)} {t_PLACED_0 t_PLACED_1 : Tok} {dd_PLACED : Option Addr} {nn_PLACED : Nat} {sl_PLACED : Array (Option Value)} {t_STEEP_0 t_STEEP_1 : Tok} {dd_STEEP : Option Addr} {nn_STEEP : Nat} {sl_STEEP : Array (Option Value)} {t_BENT_0 t_BENT_1 t_BENT_2 : Tok} {dd_BENT : Option Addr} {nn_BENT : Nat} {sl_BENT : Array (Option Value)} {t_LEAST_0 t_LEAST_1 t_LEAST_2 t_LEAST_3 t_LEAST_4 : Tok} {dd_LEAST : Option Addr} {nn_LEAST : Nat} {sl_LEAST : Array (Option Value)} (X : K.In h) (G : h.Ns mainGlobals mg)
    (n_int : PySem.W.nsIn K mainGlobals "int" = some none)
    (n_bool : PySem.W.nsIn K mainGlobals "bool" = some none)
    (n_str : PySem.W.nsIn K mainGlobals "str" = some none)
    (n_tuple : PySem.W.nsIn K mainGlobals "tuple" = some none)
    (n_len : PySem.W.nsIn K mainGlobals "len" = some none)
    (n_isinstance : PySem.W.nsIn K mainGlobals "isinstance" = some none)
    (n_all : PySem.W.nsIn K mainGlobals "all" = some none)
    (n_abs : PySem.W.nsIn K mainGlobals "abs" = some none)
    (n_sum : PySem.W.nsIn K mainGlobals "sum" = some none)
    (n_min : PySem.W.nsIn K mainGlobals "min" = some none)
    (n_max : PySem.W.nsIn K mainGlobals "max" = some none)
    (n_divmod : PySem.W.nsIn K mainGlobals "divmod" = some none)
    (n_repr : PySem.W.nsIn K mainGlobals "repr" = some none)
    (n_range : PySem.W.nsIn K mainGlobals "range" = some none)
    (n_enumerate : PySem.W.nsIn K mainGlobals "enumerate" = some none)
    (g_gcd : PySem.W.nsIn K mainGlobals "gcd" = some (some (.builtin "math.gcd"))) (g_MOST : PySem.W.nsIn K mainGlobals "MOST_ASKS" = some (some (.int 8 t8)))
    (g_ZERO : PySem.W.nsIn K mainGlobals "ZERO" = some (some (.ref z0))) (l_ZERO : K.lookup z0 = some ⟨.type "tuple", dd_ZERO, .seq #[.int 0 t_ZERO_0, .int 1 t_ZERO_1] nn_ZERO, sl_ZERO⟩)
    (g_ONE : PySem.W.nsIn K mainGlobals "ONE" = some (some (.ref z1))) (l_ONE : K.lookup z1 = some ⟨.type "tuple", dd_ONE, .seq #[.int 1 t_ONE_0, .int 1 t_ONE_1] nn_ONE, sl_ONE⟩)
    (g_TWO : PySem.W.nsIn K mainGlobals "TWO" = some (some (.ref z2))) (l_TWO : K.lookup z2 = some ⟨.type "tuple", dd_TWO, .seq #[.int 2 t_TWO_0, .int 1 t_TWO_1] nn_TWO, sl_TWO⟩)
    (g_FOUR : PySem.W.nsIn K mainGlobals "FOUR" = some (some (.ref z4))) (l_FOUR : K.lookup z4 = some ⟨.type "tuple", dd_FOUR, .seq #[.int 4 t_FOUR_0, .int 1 t_FOUR_1] nn_FOUR, sl_FOUR⟩)
    (g_UNIT : PySem.W.nsIn K mainGlobals "UNIT" = some (some (.ref zu))) (l_UNIT : K.lookup zu = some ⟨.type "tuple", dd_UNIT, .seq #[.int 1 t_UNIT_0, .int 1 t_UNIT_1] nn_UNIT, sl_UNIT⟩)
    (g_PLACED : PySem.W.nsIn K mainGlobals "PLACED" = some (some (.ref zp))) (l_PLACED : K.lookup zp = some ⟨.type "tuple", dd_PLACED, .seq #[.str "over" t_PLACED_0, .str "under" t_PLACED_1] nn_PLACED, sl_PLACED⟩)
    (g_STEEP : PySem.W.nsIn K mainGlobals "STEEP" = some (some (.ref zs))) (l_STEEP : K.lookup zs = some ⟨.type "tuple", dd_STEEP, .seq #[.str "dives" t_STEEP_0, .str "climbs" t_STEEP_1] nn_STEEP, sl_STEEP⟩)
    (g_BENT : PySem.W.nsIn K mainGlobals "BENT" = some (some (.ref zb))) (l_BENT : K.lookup zb = some ⟨.type "tuple", dd_BENT, .seq #[.str "quick" t_BENT_0, .str "slow" t_BENT_1, .str "low" t_BENT_2] nn_BENT, sl_BENT⟩)
    (g_LEAST : PySem.W.nsIn K mainGlobals "LEAST" = some (some (.ref zl))) (l_LEAST : K.lookup zl = some ⟨.type "tuple", dd_LEAST, .seq #[.str "under" t_LEAST_0, .str "roof" t_LEAST_1, .str "low" t_LEAST_2, .str "dives" t_LEAST_3, .str "slow" t_LEAST_4] nn_LEAST, sl_LEAST⟩) :
    Txt K mg z0 z1 z2 z4 zu zp zs zb zl where
  n_int := PySem.W.mg_none_of X G n_int
  n_bool := PySem.W.mg_none_of X G n_bool
  n_str := PySem.W.mg_none_of X G n_str
  n_tuple := PySem.W.mg_none_of X G n_tuple
  n_len := PySem.W.mg_none_of X G n_len
  n_isinstance := PySem.W.mg_none_of X G n_isinstance
  n_all := PySem.W.mg_none_of X G n_all
  n_abs := PySem.W.mg_none_of X G n_abs
  n_sum := PySem.W.mg_none_of X G n_sum
  n_min := PySem.W.mg_none_of X G n_min
  n_max := PySem.W.mg_none_of X G n_max
  n_divmod := PySem.W.mg_none_of X G n_divmod
  n_repr := PySem.W.mg_none_of X G n_repr
  n_range := PySem.W.mg_none_of X G n_range
  n_enumerate := PySem.W.mg_none_of X G n_enumerate
  g_gcd := PySem.W.mg_of X G g_gcd
  g_MOST := ⟨t8, PySem.W.mg_of X G g_MOST⟩
  g_ZERO := PySem.W.mg_of X G g_ZERO
  g_ONE := PySem.W.mg_of X G g_ONE
  g_TWO := PySem.W.mg_of X G g_TWO
  g_FOUR := PySem.W.mg_of X G g_FOUR
  g_UNIT := PySem.W.mg_of X G g_UNIT
  g_PLACED := PySem.W.mg_of X G g_PLACED
  g_STEEP := PySem.W.mg_of X G g_STEEP
  g_BENT := PySem.W.mg_of X G g_BENT
  g_LEAST := PySem.W.mg_of X G g_LEAST
  t_ZERO := fun H => ⟨z0, rfl, .inr ⟨_, _, _, l_ZERO, rfl, rfl, Nat.le_trans (show 2 ≤ 10 by decide) (by decide), (.cons ⟨_, rfl⟩ (.cons ⟨_, rfl⟩ .nil))⟩⟩
  t_ONE := fun H => ⟨z1, rfl, .inr ⟨_, _, _, l_ONE, rfl, rfl, Nat.le_trans (show 2 ≤ 10 by decide) (by decide), (.cons ⟨_, rfl⟩ (.cons ⟨_, rfl⟩ .nil))⟩⟩
  t_TWO := fun H => ⟨z2, rfl, .inr ⟨_, _, _, l_TWO, rfl, rfl, Nat.le_trans (show 2 ≤ 10 by decide) (by decide), (.cons ⟨_, rfl⟩ (.cons ⟨_, rfl⟩ .nil))⟩⟩
  t_FOUR := fun H => ⟨z4, rfl, .inr ⟨_, _, _, l_FOUR, rfl, rfl, Nat.le_trans (show 2 ≤ 10 by decide) (by decide), (.cons ⟨_, rfl⟩ (.cons ⟨_, rfl⟩ .nil))⟩⟩
  t_UNIT := fun H => ⟨zu, rfl, .inr ⟨_, _, _, l_UNIT, rfl, rfl, Nat.le_trans (show 2 ≤ 10 by decide) (by decide), (.cons ⟨_, rfl⟩ (.cons ⟨_, rfl⟩ .nil))⟩⟩
  t_PLACED := fun H => ⟨zp, rfl, .inr ⟨_, _, _, l_PLACED, rfl, rfl, Nat.le_trans (show 2 ≤ 10 by decide) (by decide), (.cons ⟨_, rfl⟩ (.cons ⟨_, rfl⟩ .nil))⟩⟩
  t_STEEP := fun H => ⟨zs, rfl, .inr ⟨_, _, _, l_STEEP, rfl, rfl, Nat.le_trans (show 2 ≤ 10 by decide) (by decide), (.cons ⟨_, rfl⟩ (.cons ⟨_, rfl⟩ .nil))⟩⟩
  t_BENT := fun H => ⟨zb, rfl, .inr ⟨_, _, _, l_BENT, rfl, rfl, Nat.le_trans (show 3 ≤ 10 by decide) (by decide), (.cons ⟨_, rfl⟩ (.cons ⟨_, rfl⟩ (.cons ⟨_, rfl⟩ .nil)))⟩⟩
  t_LEAST := fun H => ⟨zl, rfl, .inr ⟨_, _, _, l_LEAST, rfl, rfl, Nat.le_trans (show 5 ≤ 10 by decide) (by decide), (.cons ⟨_, rfl⟩ (.cons ⟨_, rfl⟩ (.cons ⟨_, rfl⟩ (.cons ⟨_, rfl⟩ (.cons ⟨_, rfl⟩ .nil)))))⟩⟩
theorem all_mk {P : Program} {w : World} {K : PySem.W.Frag} {mg : Str → Option Value} {base : Heap} {z0 z1 z2 z4 zu zp zs zb zl : Addr} (T : Txt K mg z0 z1 z2 z4 zu zp zs zb zl) (D_is_whole : Df K mg "is_whole" st_is_whole) (D_are_wholes : Df K mg "are_wholes" st_are_wholes) (D_divisor_of : Df K mg "divisor_of" st_divisor_of) (D_is_reduced : Df K mg "is_reduced" st_is_reduced) (D_is_ratio : Df K mg "is_ratio" st_is_ratio) (D_ratio : Df K mg "ratio" st_ratio) (D_ratio_sum : Df K mg "ratio_sum" st_ratio_sum) (D_ratio_product : Df K mg "ratio_product" st_ratio_product) (D_ratio_over : Df K mg "ratio_over" st_ratio_over) (D_ratio_back : Df K mg "ratio_back" st_ratio_back) (D_is_lower : Df K mg "is_lower" st_is_lower) (D_is_spot : Df K mg "is_spot" st_is_spot) (D_is_ahead : Df K mg "is_ahead" st_is_ahead) (D_far_of : Df K mg "far_of" st_far_of) (D_tall_of : Df K mg "tall_of" st_tall_of) (D_bent_ratio : Df K mg "bent_ratio" st_bent_ratio) (D_is_stream_pair : Df K mg "is_stream_pair" st_is_stream_pair) (D_head_for : Df K mg "head_for" st_head_for) (D_is_of_head : Df K mg "is_of_head" st_is_of_head) (D_is_asking : Df K mg "is_asking" st_is_asking) (D_is_steep : Df K mg "is_steep" st_is_steep) (D_is_least : Df K mg "is_least" st_is_least) (D_line_under : Df K mg "line_under" st_line_under) (D_parts_of : Df K mg "parts_of" st_parts_of) (D_bent_at : Df K mg "bent_at" st_bent_at) (D_bound_for : Df K mg "bound_for" st_bound_for) (D_is_done : Df K mg "is_done" st_is_done) (D_are_done : Df K mg "are_done" st_are_done) (D_check_head : Df K mg "check_head" st_check_head) (D_check_jet : Df K mg "check_jet" st_check_jet) (D_check_ask : Df K mg "check_ask" st_check_ask) (D_check_asks : Df K mg "check_asks" st_check_asks) (D_does : Df K mg "does" st_does) (D_does_all : Df K mg "does_all" st_does_all) (D_is_good : Df K mg "is_good" st_is_good) (D_l_vat : Df K mg "_law_vat" st_l_vat) (D_l_draw : Df K mg "_law_draw" st_l_draw) (D_l_pick : Df K mg "_law_pick" st_l_pick) (D_l_about : Df K mg "_law_about" st_l_about) (D_l_gcd : Df K mg "_law_gcd" st_l_gcd) (D_l_low : Df K mg "_law_low" st_l_low) (D_l_frac : Df K mg "_law_frac" st_l_frac) (D_l_add : Df K mg "_law_add" st_l_add) (D_l_sub : Df K mg "_law_sub" st_l_sub) (D_l_mul : Df K mg "_law_mul" st_l_mul) (D_l_div : Df K mg "_law_div" st_l_div) (D_l_minus : Df K mg "_law_minus" st_l_minus) (D_l_less : Df K mg "_law_less" st_l_less) (D_l_size : Df K mg "_law_size" st_l_size) (D_l_some_frac : Df K mg "_law_some_frac" st_l_some_frac) (D_l_above : Df K mg "_law_above" st_l_above) (D_l_spot : Df K mg "_law_spot" st_l_spot) (D_l_far : Df K mg "_law_far" st_l_far) (D_l_high : Df K mg "_law_high" st_l_high) (D_l_place : Df K mg "_law_place" st_l_place) (D_l_jet : Df K mg "_law_jet" st_l_jet) (D_l_at : Df K mg "_law_at" st_l_at) (D_l_rise : Df K mg "_law_rise" st_l_rise) (D_l_head : Df K mg "_law_head" st_l_head) (D_l_ask : Df K mg "_law_ask" st_l_ask) (D_l_row : Df K mg "_law_row" st_l_row) (D_l_worth : Df K mg "_law_worth" st_l_worth) (D_l_does : Df K mg "_law_does" st_l_does) (D_l_near_ask : Df K mg "_law_near_ask" st_l_near_ask) (D_l_asks : Df K mg "_law_asks" st_l_asks) (D_l_right : Df K mg "_law_right" st_l_right) (D_law : Df K mg "law" st_law) :
    PrG P w K mg base 10 "law" ["_law_script"] (sp_law K) := by
  have G_is_whole := ok_is_whole (P := P) (w := w) (base := base) D_is_whole T 
  have G_are_wholes := ok_are_wholes (P := P) (w := w) (base := base) D_are_wholes T G_is_whole
  have G_divisor_of := ok_divisor_of (P := P) (w := w) (base := base) D_divisor_of T 
  have G_is_reduced := ok_is_reduced (P := P) (w := w) (base := base) D_is_reduced G_divisor_of
  have G_is_ratio := ok_is_ratio (P := P) (w := w) (base := base) D_is_ratio G_are_wholes G_is_reduced
  have G_ratio := ok_ratio (P := P) (w := w) (base := base) D_ratio G_divisor_of
  have G_ratio_sum := ok_ratio_sum (P := P) (w := w) (base := base) D_ratio_sum G_ratio
  have G_ratio_product := ok_ratio_product (P := P) (w := w) (base := base) D_ratio_product G_ratio
  have G_ratio_over := ok_ratio_over (P := P) (w := w) (base := base) D_ratio_over G_ratio
  have G_ratio_back := ok_ratio_back (P := P) (w := w) (base := base) D_ratio_back 
  have G_is_lower := ok_is_lower (P := P) (w := w) (base := base) D_is_lower 
  have G_is_spot := ok_is_spot (P := P) (w := w) (base := base) D_is_spot G_are_wholes G_is_reduced
  have G_is_ahead := ok_is_ahead (P := P) (w := w) (base := base) D_is_ahead G_is_spot
  have G_far_of := ok_far_of (P := P) (w := w) (base := base) D_far_of G_ratio
  have G_tall_of := ok_tall_of (P := P) (w := w) (base := base) D_tall_of G_ratio
  have G_bent_ratio := ok_bent_ratio (P := P) (w := w) (base := base) D_bent_ratio G_ratio_sum G_ratio_product
  have G_is_stream_pair := ok_is_stream_pair (P := P) (w := w) (base := base) D_is_stream_pair T G_is_ratio
  have G_head_for := ok_head_for (P := P) (w := w) (base := base) D_head_for T G_ratio_over G_ratio_sum G_ratio_product
  have G_is_of_head := ok_is_of_head (P := P) (w := w) (base := base) D_is_of_head G_is_lower G_head_for
  have G_is_asking := ok_is_asking (P := P) (w := w) (base := base) D_is_asking T G_is_ratio G_is_ahead
  have G_is_steep := ok_is_steep (P := P) (w := w) (base := base) D_is_steep T 
  have G_is_least := ok_is_least (P := P) (w := w) (base := base) D_is_least T 
  have G_line_under := ok_line_under (P := P) (w := w) (base := base) D_line_under T G_ratio_product G_ratio_back G_ratio_over
  have G_parts_of := ok_parts_of (P := P) (w := w) (base := base) D_parts_of T G_ratio_over G_ratio_product G_line_under G_far_of G_tall_of G_ratio_back
  have G_bent_at := ok_bent_at (P := P) (w := w) (base := base) D_bent_at G_is_lower
  have G_bound_for := ok_bound_for (P := P) (w := w) (base := base) D_bound_for G_bent_ratio G_bent_at
  have G_is_done := ok_is_done (P := P) (w := w) (base := base) D_is_done G_is_steep G_bound_for G_parts_of G_is_least G_is_lower
  have G_are_done := ok_are_done (P := P) (w := w) (base := base) D_are_done T G_is_done
  have G_check_head := ok_check_head (P := P) (w := w) (base := base) D_check_head G_is_ratio
  have G_check_jet := ok_check_jet (P := P) (w := w) (base := base) D_check_jet G_is_stream_pair
  have G_check_ask := ok_check_ask (P := P) (w := w) (base := base) D_check_ask G_is_asking
  have G_check_asks := ok_check_asks (P := P) (w := w) (base := base) D_check_asks T G_is_asking
  have G_does := ok_does (P := P) (w := w) (base := base) D_does G_check_jet G_check_ask G_is_done
  have G_does_all := ok_does_all (P := P) (w := w) (base := base) D_does_all G_check_jet G_check_asks G_are_done
  have G_is_good := ok_is_good (P := P) (w := w) (base := base) D_is_good G_check_jet G_check_head G_check_asks G_is_of_head G_are_done
  have G_l_vat := ok_l_vat (P := P) (w := w) (base := base) D_l_vat T 
  have G_l_draw := ok_l_draw (P := P) (w := w) (base := base) D_l_draw T 
  have G_l_pick := ok_l_pick (P := P) (w := w) (base := base) D_l_pick T G_l_draw
  have G_l_about := ok_l_about (P := P) (w := w) (base := base) D_l_about T G_l_draw
  have G_l_gcd := ok_l_gcd (P := P) (w := w) (base := base) D_l_gcd T 
  have G_l_low := ok_l_low (P := P) (w := w) (base := base) D_l_low T G_l_gcd
  have G_l_frac := ok_l_frac (P := P) (w := w) (base := base) D_l_frac G_l_low
  have G_l_add := ok_l_add (P := P) (w := w) (base := base) D_l_add G_l_frac
  have G_l_sub := ok_l_sub (P := P) (w := w) (base := base) D_l_sub G_l_frac
  have G_l_mul := ok_l_mul (P := P) (w := w) (base := base) D_l_mul G_l_frac
  have G_l_div := ok_l_div (P := P) (w := w) (base := base) D_l_div G_l_frac
  have G_l_minus := ok_l_minus (P := P) (w := w) (base := base) D_l_minus 
  have G_l_less := ok_l_less (P := P) (w := w) (base := base) D_l_less 
  have G_l_size := ok_l_size (P := P) (w := w) (base := base) D_l_size G_l_pick
  have G_l_some_frac := ok_l_some_frac (P := P) (w := w) (base := base) D_l_some_frac T G_l_frac G_l_about G_l_draw G_l_pick
  have G_l_above := ok_l_above (P := P) (w := w) (base := base) D_l_above T G_l_frac G_l_draw G_l_about G_l_pick
  have G_l_spot := ok_l_spot (P := P) (w := w) (base := base) D_l_spot G_l_low
  have G_l_far := ok_l_far (P := P) (w := w) (base := base) D_l_far G_l_frac
  have G_l_high := ok_l_high (P := P) (w := w) (base := base) D_l_high G_l_frac
  have G_l_place := ok_l_place (P := P) (w := w) (base := base) D_l_place G_l_spot G_l_above G_l_some_frac
  have G_l_jet := ok_l_jet (P := P) (w := w) (base := base) D_l_jet G_l_size G_l_some_frac G_l_above G_l_pick
  have G_l_at := ok_l_at (P := P) (w := w) (base := base) D_l_at G_l_sub G_l_mul
  have G_l_rise := ok_l_rise (P := P) (w := w) (base := base) D_l_rise G_l_sub G_l_mul
  have G_l_head := ok_l_head (P := P) (w := w) (base := base) D_l_head G_l_div G_l_add G_l_mul
  have G_l_ask := ok_l_ask (P := P) (w := w) (base := base) D_l_ask G_l_pick G_l_place G_l_spot G_l_add G_l_above G_l_some_frac G_l_far G_l_high
  have G_l_row := ok_l_row (P := P) (w := w) (base := base) D_l_row T G_l_minus G_l_mul G_l_far G_l_high
  have G_l_worth := ok_l_worth (P := P) (w := w) (base := base) D_l_worth G_l_add G_l_mul
  have G_l_does := ok_l_does (P := P) (w := w) (base := base) D_l_does G_l_div G_l_far G_l_sub G_l_mul G_l_high G_l_less G_l_worth G_l_row G_l_at
  have G_l_near_ask := ok_l_near_ask (P := P) (w := w) (base := base) D_l_near_ask G_l_add G_l_pick G_l_above G_l_rise G_l_spot G_l_div G_l_mul G_l_at G_l_some_frac G_l_sub
  have G_l_asks := ok_l_asks (P := P) (w := w) (base := base) D_l_asks T G_l_draw G_l_near_ask G_l_ask G_l_pick
  have G_l_right := ok_l_right (P := P) (w := w) (base := base) D_l_right T G_l_asks G_l_head G_l_jet G_l_worth G_l_mul G_l_above G_l_near_ask G_l_ask G_l_row G_does G_does_all G_is_good G_l_draw G_l_size G_l_less G_l_does
  have G_law := ok_law (P := P) (w := w) (base := base) D_law T G_l_right G_l_vat
  exact G_law
end K17
open PySem PySem.W PyProof.Rows in
set_option maxRecDepth 100000 in
set_option maxHeartbeats 0 in
theorem PySem.Challenge.cw_spoutlines_k17_whole_asks_of_one_distanc_holds : PySem.Challenge.rw_spoutlines_k17_whole_asks_of_one_distanc.Holds := by
  w_on; o_law; k_head; (case hw => w_witness2)
  k_fill
  refine K17.walk_g (l := PySem.Challenge.rw_spoutlines_k17_whole_asks_of_one_distanc) (n := 63) (k := 10) (y := "_law_script") (sp := K17.sp_law) rfl (by decide) rfl ⟨rfl, by decide, by decide⟩ (fun w h Y => PySem.W.kIn_of Y) ?F (fun K H a ns hl hS => ⟨a, ns, rfl, hS, hl, fun _ => rfl⟩)
  case F =>
    intro w mg h KX G base hK hB
    refine' K17.all_mk (K17.txt_mk KX G ?n_int ?n_bool ?n_str ?n_tuple ?n_len ?n_isinstance ?n_all ?n_abs ?n_sum ?n_min ?n_max ?n_divmod ?n_repr ?n_range ?n_enumerate ?g_gcd ?g_MOST ?g_ZERO ?l_ZERO ?g_ONE ?l_ONE ?g_TWO ?l_TWO ?g_FOUR ?l_FOUR ?g_UNIT ?l_UNIT ?g_PLACED ?l_PLACED ?g_STEEP ?l_STEEP ?g_BENT ?l_BENT ?g_LEAST ?l_LEAST) (K17.df_mk KX G ?a_is_whole ?f_is_whole ?c_is_whole ?k_is_whole) (K17.df_mk KX G ?a_are_wholes ?f_are_wholes ?c_are_wholes ?k_are_wholes) (K17.df_mk KX G ?a_divisor_of ?f_divisor_of ?c_divisor_of ?k_divisor_of) (K17.df_mk KX G ?a_is_reduced ?f_is_reduced ?c_is_reduced ?k_is_reduced) (K17.df_mk KX G ?a_is_ratio ?f_is_ratio ?c_is_ratio ?k_is_ratio) (K17.df_mk KX G ?a_ratio ?f_ratio ?c_ratio ?k_ratio) (K17.df_mk KX G ?a_ratio_sum ?f_ratio_sum ?c_ratio_sum ?k_ratio_sum) (K17.df_mk KX G ?a_ratio_product ?f_ratio_product ?c_ratio_product ?k_ratio_product) (K17.df_mk KX G ?a_ratio_over ?f_ratio_over ?c_ratio_over ?k_ratio_over) (K17.df_mk KX G ?a_ratio_back ?f_ratio_back ?c_ratio_back ?k_ratio_back) (K17.df_mk KX G ?a_is_lower ?f_is_lower ?c_is_lower ?k_is_lower) (K17.df_mk KX G ?a_is_spot ?f_is_spot ?c_is_spot ?k_is_spot) (K17.df_mk KX G ?a_is_ahead ?f_is_ahead ?c_is_ahead ?k_is_ahead) (K17.df_mk KX G ?a_far_of ?f_far_of ?c_far_of ?k_far_of) (K17.df_mk KX G ?a_tall_of ?f_tall_of ?c_tall_of ?k_tall_of) (K17.df_mk KX G ?a_bent_ratio ?f_bent_ratio ?c_bent_ratio ?k_bent_ratio) (K17.df_mk KX G ?a_is_stream_pair ?f_is_stream_pair ?c_is_stream_pair ?k_is_stream_pair) (K17.df_mk KX G ?a_head_for ?f_head_for ?c_head_for ?k_head_for) (K17.df_mk KX G ?a_is_of_head ?f_is_of_head ?c_is_of_head ?k_is_of_head) (K17.df_mk KX G ?a_is_asking ?f_is_asking ?c_is_asking ?k_is_asking) (K17.df_mk KX G ?a_is_steep ?f_is_steep ?c_is_steep ?k_is_steep) (K17.df_mk KX G ?a_is_least ?f_is_least ?c_is_least ?k_is_least) (K17.df_mk KX G ?a_line_under ?f_line_under ?c_line_under ?k_line_under) (K17.df_mk KX G ?a_parts_of ?f_parts_of ?c_parts_of ?k_parts_of) (K17.df_mk KX G ?a_bent_at ?f_bent_at ?c_bent_at ?k_bent_at) (K17.df_mk KX G ?a_bound_for ?f_bound_for ?c_bound_for ?k_bound_for) (K17.df_mk KX G ?a_is_done ?f_is_done ?c_is_done ?k_is_done) (K17.df_mk KX G ?a_are_done ?f_are_done ?c_are_done ?k_are_done) (K17.df_mk KX G ?a_check_head ?f_check_head ?c_check_head ?k_check_head) (K17.df_mk KX G ?a_check_jet ?f_check_jet ?c_check_jet ?k_check_jet) (K17.df_mk KX G ?a_check_ask ?f_check_ask ?c_check_ask ?k_check_ask) (K17.df_mk KX G ?a_check_asks ?f_check_asks ?c_check_asks ?k_check_asks) (K17.df_mk KX G ?a_does ?f_does ?c_does ?k_does) (K17.df_mk KX G ?a_does_all ?f_does_all ?c_does_all ?k_does_all) (K17.df_mk KX G ?a_is_good ?f_is_good ?c_is_good ?k_is_good) (K17.df_mk KX G ?a_l_vat ?f_l_vat ?c_l_vat ?k_l_vat) (K17.df_mk KX G ?a_l_draw ?f_l_draw ?c_l_draw ?k_l_draw) (K17.df_mk KX G ?a_l_pick ?f_l_pick ?c_l_pick ?k_l_pick) (K17.df_mk KX G ?a_l_about ?f_l_about ?c_l_about ?k_l_about) (K17.df_mk KX G ?a_l_gcd ?f_l_gcd ?c_l_gcd ?k_l_gcd) (K17.df_mk KX G ?a_l_low ?f_l_low ?c_l_low ?k_l_low) (K17.df_mk KX G ?a_l_frac ?f_l_frac ?c_l_frac ?k_l_frac) (K17.df_mk KX G ?a_l_add ?f_l_add ?c_l_add ?k_l_add) (K17.df_mk KX G ?a_l_sub ?f_l_sub ?c_l_sub ?k_l_sub) (K17.df_mk KX G ?a_l_mul ?f_l_mul ?c_l_mul ?k_l_mul) (K17.df_mk KX G ?a_l_div ?f_l_div ?c_l_div ?k_l_div) (K17.df_mk KX G ?a_l_minus ?f_l_minus ?c_l_minus ?k_l_minus) (K17.df_mk KX G ?a_l_less ?f_l_less ?c_l_less ?k_l_less) (K17.df_mk KX G ?a_l_size ?f_l_size ?c_l_size ?k_l_size) (K17.df_mk KX G ?a_l_some_frac ?f_l_some_frac ?c_l_some_frac ?k_l_some_frac) (K17.df_mk KX G ?a_l_above ?f_l_above ?c_l_above ?k_l_above) (K17.df_mk KX G ?a_l_spot ?f_l_spot ?c_l_spot ?k_l_spot) (K17.df_mk KX G ?a_l_far ?f_l_far ?c_l_far ?k_l_far) (K17.df_mk KX G ?a_l_high ?f_l_high ?c_l_high ?k_l_high) (K17.df_mk KX G ?a_l_place ?f_l_place ?c_l_place ?k_l_place) (K17.df_mk KX G ?a_l_jet ?f_l_jet ?c_l_jet ?k_l_jet) (K17.df_mk KX G ?a_l_at ?f_l_at ?c_l_at ?k_l_at) (K17.df_mk KX G ?a_l_rise ?f_l_rise ?c_l_rise ?k_l_rise) (K17.df_mk KX G ?a_l_head ?f_l_head ?c_l_head ?k_l_head) (K17.df_mk KX G ?a_l_ask ?f_l_ask ?c_l_ask ?k_l_ask) (K17.df_mk KX G ?a_l_row ?f_l_row ?c_l_row ?k_l_row) (K17.df_mk KX G ?a_l_worth ?f_l_worth ?c_l_worth ?k_l_worth) (K17.df_mk KX G ?a_l_does ?f_l_does ?c_l_does ?k_l_does) (K17.df_mk KX G ?a_l_near_ask ?f_l_near_ask ?c_l_near_ask ?k_l_near_ask) (K17.df_mk KX G ?a_l_asks ?f_l_asks ?c_l_asks ?k_l_asks) (K17.df_mk KX G ?a_l_right ?f_l_right ?c_l_right ?k_l_right) (K17.df_mk KX G ?a_law ?f_law ?c_law ?k_law)
    (case n_int => k_is)
    (case n_bool => k_is)
    (case n_str => k_is)
    (case n_tuple => k_is)
    (case n_len => k_is)
    (case n_isinstance => k_is)
    (case n_all => k_is)
    (case n_abs => k_is)
    (case n_sum => k_is)
    (case n_min => k_is)
    (case n_max => k_is)
    (case n_divmod => k_is)
    (case n_repr => k_is)
    (case n_range => k_is)
    (case n_enumerate => k_is)
    (case g_gcd => k_is)
    (case g_MOST => k_is)
    (case g_ZERO => k_is)
    (case l_ZERO => k_is)
    (case g_ONE => k_is)
    (case l_ONE => k_is)
    (case g_TWO => k_is)
    (case l_TWO => k_is)
    (case g_FOUR => k_is)
    (case l_FOUR => k_is)
    (case g_UNIT => k_is)
    (case l_UNIT => k_is)
    (case g_PLACED => k_is)
    (case l_PLACED => k_is)
    (case g_STEEP => k_is)
    (case l_STEEP => k_is)
    (case g_BENT => k_is)
    (case l_BENT => k_is)
    (case g_LEAST => k_is)
    (case l_LEAST => k_is)
    (case a_is_whole => k_is)
    (case f_is_whole => k_is)
    (case c_is_whole => k_is)
    (case k_is_whole => k_is)
    (case a_are_wholes => k_is)
    (case f_are_wholes => k_is)
    (case c_are_wholes => k_is)
    (case k_are_wholes => k_is)
    (case a_divisor_of => k_is)
    (case f_divisor_of => k_is)
    (case c_divisor_of => k_is)
    (case k_divisor_of => k_is)
    (case a_is_reduced => k_is)
    (case f_is_reduced => k_is)
    (case c_is_reduced => k_is)
    (case k_is_reduced => k_is)
    (case a_is_ratio => k_is)
    (case f_is_ratio => k_is)
    (case c_is_ratio => k_is)
    (case k_is_ratio => k_is)
    (case a_ratio => k_is)
    (case f_ratio => k_is)
    (case c_ratio => k_is)
    (case k_ratio => k_is)
    (case a_ratio_sum => k_is)
    (case f_ratio_sum => k_is)
    (case c_ratio_sum => k_is)
    (case k_ratio_sum => k_is)
    (case a_ratio_product => k_is)
    (case f_ratio_product => k_is)
    (case c_ratio_product => k_is)
    (case k_ratio_product => k_is)
    (case a_ratio_over => k_is)
    (case f_ratio_over => k_is)
    (case c_ratio_over => k_is)
    (case k_ratio_over => k_is)
    (case a_ratio_back => k_is)
    (case f_ratio_back => k_is)
    (case c_ratio_back => k_is)
    (case k_ratio_back => k_is)
    (case a_is_lower => k_is)
    (case f_is_lower => k_is)
    (case c_is_lower => k_is)
    (case k_is_lower => k_is)
    (case a_is_spot => k_is)
    (case f_is_spot => k_is)
    (case c_is_spot => k_is)
    (case k_is_spot => k_is)
    (case a_is_ahead => k_is)
    (case f_is_ahead => k_is)
    (case c_is_ahead => k_is)
    (case k_is_ahead => k_is)
    (case a_far_of => k_is)
    (case f_far_of => k_is)
    (case c_far_of => k_is)
    (case k_far_of => k_is)
    (case a_tall_of => k_is)
    (case f_tall_of => k_is)
    (case c_tall_of => k_is)
    (case k_tall_of => k_is)
    (case a_bent_ratio => k_is)
    (case f_bent_ratio => k_is)
    (case c_bent_ratio => k_is)
    (case k_bent_ratio => k_is)
    (case a_is_stream_pair => k_is)
    (case f_is_stream_pair => k_is)
    (case c_is_stream_pair => k_is)
    (case k_is_stream_pair => k_is)
    (case a_head_for => k_is)
    (case f_head_for => k_is)
    (case c_head_for => k_is)
    (case k_head_for => k_is)
    (case a_is_of_head => k_is)
    (case f_is_of_head => k_is)
    (case c_is_of_head => k_is)
    (case k_is_of_head => k_is)
    (case a_is_asking => k_is)
    (case f_is_asking => k_is)
    (case c_is_asking => k_is)
    (case k_is_asking => k_is)
    (case a_is_steep => k_is)
    (case f_is_steep => k_is)
    (case c_is_steep => k_is)
    (case k_is_steep => k_is)
    (case a_is_least => k_is)
    (case f_is_least => k_is)
    (case c_is_least => k_is)
    (case k_is_least => k_is)
    (case a_line_under => k_is)
    (case f_line_under => k_is)
    (case c_line_under => k_is)
    (case k_line_under => k_is)
    (case a_parts_of => k_is)
    (case f_parts_of => k_is)
    (case c_parts_of => k_is)
    (case k_parts_of => k_is)
    (case a_bent_at => k_is)
    (case f_bent_at => k_is)
    (case c_bent_at => k_is)
    (case k_bent_at => k_is)
    (case a_bound_for => k_is)
    (case f_bound_for => k_is)
    (case c_bound_for => k_is)
    (case k_bound_for => k_is)
    (case a_is_done => k_is)
    (case f_is_done => k_is)
    (case c_is_done => k_is)
    (case k_is_done => k_is)
    (case a_are_done => k_is)
    (case f_are_done => k_is)
    (case c_are_done => k_is)
    (case k_are_done => k_is)
    (case a_check_head => k_is)
    (case f_check_head => k_is)
    (case c_check_head => k_is)
    (case k_check_head => k_is)
    (case a_check_jet => k_is)
    (case f_check_jet => k_is)
    (case c_check_jet => k_is)
    (case k_check_jet => k_is)
    (case a_check_ask => k_is)
    (case f_check_ask => k_is)
    (case c_check_ask => k_is)
    (case k_check_ask => k_is)
    (case a_check_asks => k_is)
    (case f_check_asks => k_is)
    (case c_check_asks => k_is)
    (case k_check_asks => k_is)
    (case a_does => k_is)
    (case f_does => k_is)
    (case c_does => k_is)
    (case k_does => k_is)
    (case a_does_all => k_is)
    (case f_does_all => k_is)
    (case c_does_all => k_is)
    (case k_does_all => k_is)
    (case a_is_good => k_is)
    (case f_is_good => k_is)
    (case c_is_good => k_is)
    (case k_is_good => k_is)
    (case a_l_vat => k_is)
    (case f_l_vat => k_is)
    (case c_l_vat => k_is)
    (case k_l_vat => k_is)
    (case a_l_draw => k_is)
    (case f_l_draw => k_is)
    (case c_l_draw => k_is)
    (case k_l_draw => k_is)
    (case a_l_pick => k_is)
    (case f_l_pick => k_is)
    (case c_l_pick => k_is)
    (case k_l_pick => k_is)
    (case a_l_about => k_is)
    (case f_l_about => k_is)
    (case c_l_about => k_is)
    (case k_l_about => k_is)
    (case a_l_gcd => k_is)
    (case f_l_gcd => k_is)
    (case c_l_gcd => k_is)
    (case k_l_gcd => k_is)
    (case a_l_low => k_is)
    (case f_l_low => k_is)
    (case c_l_low => k_is)
    (case k_l_low => k_is)
    (case a_l_frac => k_is)
    (case f_l_frac => k_is)
    (case c_l_frac => k_is)
    (case k_l_frac => k_is)
    (case a_l_add => k_is)
    (case f_l_add => k_is)
    (case c_l_add => k_is)
    (case k_l_add => k_is)
    (case a_l_sub => k_is)
    (case f_l_sub => k_is)
    (case c_l_sub => k_is)
    (case k_l_sub => k_is)
    (case a_l_mul => k_is)
    (case f_l_mul => k_is)
    (case c_l_mul => k_is)
    (case k_l_mul => k_is)
    (case a_l_div => k_is)
    (case f_l_div => k_is)
    (case c_l_div => k_is)
    (case k_l_div => k_is)
    (case a_l_minus => k_is)
    (case f_l_minus => k_is)
    (case c_l_minus => k_is)
    (case k_l_minus => k_is)
    (case a_l_less => k_is)
    (case f_l_less => k_is)
    (case c_l_less => k_is)
    (case k_l_less => k_is)
    (case a_l_size => k_is)
    (case f_l_size => k_is)
    (case c_l_size => k_is)
    (case k_l_size => k_is)
    (case a_l_some_frac => k_is)
    (case f_l_some_frac => k_is)
    (case c_l_some_frac => k_is)
    (case k_l_some_frac => k_is)
    (case a_l_above => k_is)
    (case f_l_above => k_is)
    (case c_l_above => k_is)
    (case k_l_above => k_is)
    (case a_l_spot => k_is)
    (case f_l_spot => k_is)
    (case c_l_spot => k_is)
    (case k_l_spot => k_is)
    (case a_l_far => k_is)
    (case f_l_far => k_is)
    (case c_l_far => k_is)
    (case k_l_far => k_is)
    (case a_l_high => k_is)
    (case f_l_high => k_is)
    (case c_l_high => k_is)
    (case k_l_high => k_is)
    (case a_l_place => k_is)
    (case f_l_place => k_is)
    (case c_l_place => k_is)
    (case k_l_place => k_is)
    (case a_l_jet => k_is)
    (case f_l_jet => k_is)
    (case c_l_jet => k_is)
    (case k_l_jet => k_is)
    (case a_l_at => k_is)
    (case f_l_at => k_is)
    (case c_l_at => k_is)
    (case k_l_at => k_is)
    (case a_l_rise => k_is)
    (case f_l_rise => k_is)
    (case c_l_rise => k_is)
    (case k_l_rise => k_is)
    (case a_l_head => k_is)
    (case f_l_head => k_is)
    (case c_l_head => k_is)
    (case k_l_head => k_is)
    (case a_l_ask => k_is)
    (case f_l_ask => k_is)
    (case c_l_ask => k_is)
    (case k_l_ask => k_is)
    (case a_l_row => k_is)
    (case f_l_row => k_is)
    (case c_l_row => k_is)
    (case k_l_row => k_is)
    (case a_l_worth => k_is)
    (case f_l_worth => k_is)
    (case c_l_worth => k_is)
    (case k_l_worth => k_is)
    (case a_l_does => k_is)
    (case f_l_does => k_is)
    (case c_l_does => k_is)
    (case k_l_does => k_is)
    (case a_l_near_ask => k_is)
    (case f_l_near_ask => k_is)
    (case c_l_near_ask => k_is)
    (case k_l_near_ask => k_is)
    (case a_l_asks => k_is)
    (case f_l_asks => k_is)
    (case c_l_asks => k_is)
    (case k_l_asks => k_is)
    (case a_l_right => k_is)
    (case f_l_right => k_is)
    (case c_l_right => k_is)
    (case k_l_right => k_is)
    (case a_law => k_is)
    (case f_law => k_is)
    (case c_law => k_is)
    (case k_law => k_is)
