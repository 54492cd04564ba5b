import PyProof.Rows.All
import Wide.All
import OpenK.AllK
import Wide.FinOn
import PyProof.EqAt
import PyProof.EqKinds
import PyProof.TupleCall
import KE.KStateDown
import KE.KExcIs
import KE.GoesNew
import HandS.ForMost
import HandS.Exc
import HandS.TryOnly
import HandS.ExcOwn
import HandS.WordsExc
import HandS.ExcInit
import HandS.ExcIs
import HandS.ExcField
import HandS.OwnEq
import HandS.OwnIter
import HandS.IterNext
import HandS.IterVal
import HandS.Property
import HandS.Defaults
import HandS.Wide
import HandS.WideBits
import HandS.IsInst
import HandS.CallSlots
import HandS.Style
import HandS.Deep
import HandS.Zip
import HandS.Lambda
import HandS.EndTab
import HandS.Head0
import HandS.Head1
import HandS.Head2
import HandS.HeadHook1
import HandS.HeadHook2
import HandS.HeadHook3
import HandS.HeadHook4
import HandS.HeadNt
import HandS.HeadWalk
import PySem.Challenge.RW_wheelsky_k90_meetings_seen_from_a_cycle
import HandS.Walk
import KE.KStrOpen
set_option Elab.async false
set_option linter.all false
set_option maxRecDepth 100000
set_option maxHeartbeats 1000000
namespace Wk
/-! ### fractions in lowest terms -/
/-- what the program divides by -/
def lowD (n d : Int) : Int := if d < 0 then -(Int.gcd n d : Int) else (Int.gcd n d : Int)
theorem gcd_pos {n d : Int} (h : d ≠ 0) : 0 < (Int.gcd n d : Int) := by
  have : 0 < Int.gcd n d := Int.gcd_pos_iff.mpr (.inr h)
  omega
theorem lowD_ne {n d : Int} (h : d ≠ 0) : lowD n d ≠ 0 := by
  have := gcd_pos (n := n) h
  unfold lowD
  split <;> omega
theorem lowD_abs (n d : Int) : (lowD n d).natAbs = Int.gcd n d := by
  unfold lowD
  split <;> omega
theorem fdiv_neg_dvd {a b : Int} (h : b ∣ a) : a.fdiv (-b) = -(a / b) := by
  obtain ⟨c, rfl⟩ := h
  by_cases hb : b = 0
  · subst hb; simp
  · rw [Int.mul_ediv_cancel_left c hb, show b * c = (-b) * (-c) by rw [Int.neg_mul_neg]]
    exact Int.mul_fdiv_cancel_left (-c) (by omega)
theorem low_num (n d : Int) (h : d ≠ 0) : n.fdiv (lowD n d) = (Rat.divInt n d).num := by
  rw [Rat.num_divInt, Int.gcd_comm d n]
  unfold lowD
  have g := gcd_pos (n := n) h
  have dn : (Int.gcd n d : Int) ∣ n := Int.gcd_dvd_left n d
  split
  · rename_i hd
    rw [fdiv_neg_dvd dn, Int.sign_eq_neg_one_of_neg hd, Int.neg_one_mul, Int.neg_ediv_of_dvd dn]
  · rw [Int.fdiv_eq_ediv_of_nonneg n (by omega), Int.sign_eq_one_of_pos (by omega), Int.one_mul]
theorem low_den (n d : Int) (h : d ≠ 0) : d.fdiv (lowD n d) = ((Rat.divInt n d).den : Int) := by
  rw [Rat.den_divInt, if_neg h, Int.gcd_comm d n]
  unfold lowD
  have g := gcd_pos (n := n) h
  have dd : (Int.gcd n d : Int) ∣ d := Int.gcd_dvd_right n d
  split
  · rename_i hd
    rw [fdiv_neg_dvd dd, ← Int.neg_ediv_of_dvd dd, Int.natCast_ediv]
    congr 1
    omega
  · rw [Int.fdiv_eq_ediv_of_nonneg d (by omega), Int.natCast_ediv]
    congr 1
    omega
theorem low_num' (n d : Int) (h : 0 < d) : n / (Int.gcd n d : Int) = (Rat.divInt n d).num := by
  have z := low_num n d (by omega)
  unfold lowD at z
  rw [if_neg (by omega), Int.fdiv_eq_ediv_of_nonneg n (by omega)] at z
  exact z
theorem low_den' (n d : Int) (h : 0 < d) : d / (Int.gcd n d : Int) = ((Rat.divInt n d).den : Int) := by
  have z := low_den n d (by omega)
  unfold lowD at z
  rw [if_neg (by omega), Int.fdiv_eq_ediv_of_nonneg d (by omega)] at z
  exact z
theorem den_ne (x : Rat) : (x.den : Int) ≠ 0 := by
  have := x.den_pos
  omega
theorem den_gt (x : Rat) : 0 < (x.den : Int) := by
  have := x.den_pos
  omega
theorem red (x : Rat) : Int.gcd x.num x.den = 1 := x.reduced
theorem add_divInt (x y : Rat) : x + y = Rat.divInt (x.num * y.den + y.num * x.den) (x.den * y.den) := by
  rw [Rat.add_def', ← Rat.divInt_ofNat, Int.natCast_mul]
theorem sub_divInt (x y : Rat) : x - y = Rat.divInt (x.num * y.den - y.num * x.den) (x.den * y.den) := by
  rw [Rat.sub_def', ← Rat.divInt_ofNat, Int.natCast_mul]
theorem mul_divInt (x y : Rat) : x * y = Rat.divInt (x.num * y.num) (x.den * y.den) := by
  rw [Rat.mul_def', ← Rat.divInt_ofNat, Int.natCast_mul]
theorem div_divInt (x y : Rat) : x / y = Rat.divInt (x.num * y.den) (x.den * y.num) := by
  rw [Rat.div_def, Rat.inv_def]
  conv => lhs; lhs; rw [← Rat.num_divInt_den x]
  rw [Rat.divInt_mul_divInt]
theorem gcd_emod (a b : Int) : Int.gcd (a % b) b = Int.gcd a b := by
  rw [Int.emod_def, Int.gcd_sub_mul_left_left]
theorem gcd_step (a b : Int) : Int.gcd b (a % b) = Int.gcd a b := by
  rw [Int.gcd_comm, gcd_emod]
/-- the part: x less its floor -/
def fr (x : Rat) : Rat := x - (x.floor : Rat)
theorem fr_mk (x : Rat) : fr x = Rat.divInt (x.num % (x.den : Int)) x.den := by
  unfold fr
  rw [sub_divInt, Rat.floor_def, Rat.num_intCast, Rat.den_intCast, Int.emod_def]
  simp [Int.mul_comm]
theorem fr_num (x : Rat) : (fr x).num = x.num % (x.den : Int) := by
  rw [fr_mk, ← low_num' _ _ (den_gt x), gcd_emod, red]
  simp
theorem fr_den (x : Rat) : (fr x).den = x.den := by
  have h := low_den' (x.num % (x.den : Int)) _ (den_gt x)
  rw [← fr_mk, gcd_emod, red] at h
  simp at h
  omega
theorem fr_nn (x : Rat) : 0 ≤ fr x := by
  have := Rat.floor_le x
  unfold fr
  grind
theorem fr_lt (x : Rat) : fr x < 1 := by
  have := Rat.lt_floor_add_one x
  unfold fr
  rw [Rat.intCast_add] at this
  grind
/-! ### whole numbers among the fractions -/
def Whole (x : Rat) : Prop := ∃ n : Int, x = (n : Rat)
theorem whole_iff (x : Rat) : Whole x ↔ x.den = 1 := by
  constructor
  · rintro ⟨n, rfl⟩
    rfl
  · intro h
    refine ⟨x.num, ?_⟩
    apply Rat.ext
    · rfl
    · exact h
theorem Whole.int (n : Int) : Whole (n : Rat) := ⟨n, rfl⟩
theorem Whole.zero : Whole 0 := ⟨0, rfl⟩
theorem Whole.add {x y : Rat} (a : Whole x) (b : Whole y) : Whole (x + y) := by
  obtain ⟨n, rfl⟩ := a
  obtain ⟨m, rfl⟩ := b
  exact ⟨n + m, by rw [Rat.intCast_add]⟩
theorem Whole.neg {x : Rat} (a : Whole x) : Whole (-x) := by
  obtain ⟨n, rfl⟩ := a
  exact ⟨-n, by rw [Rat.intCast_neg]⟩
theorem Whole.sub {x y : Rat} (a : Whole x) (b : Whole y) : Whole (x - y) := by
  rw [Rat.sub_eq_add_neg]
  exact a.add b.neg
theorem Whole.mul {x y : Rat} (a : Whole x) (b : Whole y) : Whole (x * y) := by
  obtain ⟨n, rfl⟩ := a
  obtain ⟨m, rfl⟩ := b
  exact ⟨n * m, by rw [Rat.intCast_mul]⟩
theorem Whole.fr (x : Rat) : Whole (x - Wk.fr x) := ⟨x.floor, by unfold Wk.fr; grind⟩
theorem Whole.num {x : Rat} (a : Whole x) : (x.num : Rat) = x := by
  obtain ⟨n, rfl⟩ := a
  rfl
theorem floor_unique {x : Rat} {n : Int} (h1 : (n : Rat) ≤ x) (h2 : x < (n : Rat) + 1) : x.floor = n := by
  have a : n ≤ x.floor := Rat.le_floor_iff.mpr h1
  have b : x.floor < n + 1 := Rat.floor_lt_iff.mpr (by rw [Rat.intCast_add]; exact h2)
  omega
/-! ### sizes -/
/-- both parts below 2 ^ n -/
def Sz (n : Nat) (x : Rat) : Prop := x.num.natAbs < 2 ^ n ∧ x.den < 2 ^ n
theorem Sz.mono {n m : Nat} {x : Rat} (h : Sz n x) (l : n ≤ m) : Sz m x :=
  ⟨Nat.lt_of_lt_of_le h.1 (Nat.pow_le_pow_right (by decide) l), Nat.lt_of_lt_of_le h.2 (Nat.pow_le_pow_right (by decide) l)⟩
theorem natAbs_ediv_le (a b : Int) (hb : 0 < b) (h : b ∣ a) : (a / b).natAbs ≤ a.natAbs := by
  obtain ⟨c, rfl⟩ := h
  rw [Int.mul_ediv_cancel_left c (by omega), Int.natAbs_mul]
  exact Nat.le_mul_of_pos_left _ (by omega)
theorem divInt_num_le (n d : Int) (h : d ≠ 0) : (Rat.divInt n d).num.natAbs ≤ n.natAbs := by
  rw [Rat.num_divInt]
  have dn : (Int.gcd d n : Int) ∣ n := Int.gcd_dvd_right d n
  have g : 0 < (Int.gcd d n : Int) := by rw [Int.gcd_comm]; exact gcd_pos h
  refine Nat.le_trans (natAbs_ediv_le _ _ g (Int.dvd_mul_of_dvd_right dn)) ?_
  rw [Int.natAbs_mul]
  have := Int.natAbs_sign_of_ne_zero h
  rw [this]
  omega
theorem divInt_den_le (n d : Int) (h : d ≠ 0) : (Rat.divInt n d).den ≤ d.natAbs := by
  rw [Rat.den_divInt, if_neg h]
  exact Nat.div_le_self _ _
theorem lt_mul {i j : Int} {a b : Nat} (ha : i.natAbs < 2 ^ a) (hb : j.natAbs < 2 ^ b) : (i * j).natAbs < 2 ^ (a + b) := by
  rw [Int.natAbs_mul, Nat.pow_add]
  exact Nat.mul_lt_mul'' ha hb
theorem lt_add {i j : Int} {a : Nat} (ha : i.natAbs < 2 ^ a) (hb : j.natAbs < 2 ^ a) : (i + j).natAbs < 2 ^ (a + 1) := by
  rw [Nat.pow_succ]
  omega
theorem lt_sub {i j : Int} {a : Nat} (ha : i.natAbs < 2 ^ a) (hb : j.natAbs < 2 ^ a) : (i - j).natAbs < 2 ^ (a + 1) := by
  rw [Nat.pow_succ]
  omega
theorem lt_mono {i : Int} {a b : Nat} (ha : i.natAbs < 2 ^ a) (h : a ≤ b) : i.natAbs < 2 ^ b := Nat.lt_of_lt_of_le ha (Nat.pow_le_pow_right (by decide) h)
theorem Sz.d {n : Nat} {x : Rat} (h : Sz n x) : (x.den : Int).natAbs < 2 ^ n := by
  have := h.2
  omega
section
variable {n m : Nat} {x y : Rat}
theorem Sz.rawA (hx : Sz n x) (hy : Sz m y) : (x.num * y.den + y.num * x.den).natAbs < 2 ^ (n + m + 1) :=
  lt_add (lt_mul hx.1 hy.d) (by rw [Nat.add_comm]; exact lt_mul hy.1 hx.d)
theorem Sz.rawS (hx : Sz n x) (hy : Sz m y) : (x.num * y.den - y.num * x.den).natAbs < 2 ^ (n + m + 1) :=
  lt_sub (lt_mul hx.1 hy.d) (by rw [Nat.add_comm]; exact lt_mul hy.1 hx.d)
theorem Sz.rawD (hx : Sz n x) (hy : Sz m y) : ((x.den : Int) * y.den).natAbs < 2 ^ (n + m) := lt_mul hx.d hy.d
theorem Sz.rawM (hx : Sz n x) (hy : Sz m y) : (x.num * y.num).natAbs < 2 ^ (n + m) := lt_mul hx.1 hy.1
theorem Sz.rawQ (hx : Sz n x) (hy : Sz m y) : (x.num * y.den).natAbs < 2 ^ (n + m) := lt_mul hx.1 hy.d
theorem Sz.rawR (hx : Sz n x) (hy : Sz m y) : ((x.den : Int) * y.num).natAbs < 2 ^ (n + m) := lt_mul hx.d hy.1
theorem dd_ne (x y : Rat) : (x.den : Int) * y.den ≠ 0 := Int.mul_ne_zero (den_ne x) (den_ne y)
theorem Sz.of_divInt {k : Nat} {a b : Int} (h : b ≠ 0) (ha : a.natAbs < 2 ^ k) (hb : b.natAbs < 2 ^ k) : Sz k (Rat.divInt a b) :=
  ⟨Nat.lt_of_le_of_lt (divInt_num_le a b h) ha, Nat.lt_of_le_of_lt (divInt_den_le a b h) hb⟩
theorem Sz.add (hx : Sz n x) (hy : Sz m y) : Sz (n + m + 1) (x + y) := by
  rw [add_divInt]
  exact .of_divInt (dd_ne x y) (hx.rawA hy) (lt_mono (hx.rawD hy) (by omega))
theorem Sz.sub (hx : Sz n x) (hy : Sz m y) : Sz (n + m + 1) (x - y) := by
  rw [sub_divInt]
  exact .of_divInt (dd_ne x y) (hx.rawS hy) (lt_mono (hx.rawD hy) (by omega))
theorem Sz.mul (hx : Sz n x) (hy : Sz m y) : Sz (n + m) (x * y) := by
  rw [mul_divInt]
  exact .of_divInt (dd_ne x y) (hx.rawM hy) (hx.rawD hy)
theorem dn_ne {y : Rat} (x : Rat) (h : y ≠ 0) : (x.den : Int) * y.num ≠ 0 := Int.mul_ne_zero (den_ne x) fun e => h (Rat.num_eq_zero.mp e)
theorem Sz.div (hx : Sz n x) (hy : Sz m y) (h : y ≠ 0) : Sz (n + m) (x / y) := by
  rw [div_divInt]
  exact .of_divInt (dn_ne x h) (hx.rawQ hy) (hx.rawR hy)
theorem Sz.neg (hx : Sz n x) : Sz n (-x) := by
  have h1 := hx.1
  have h2 := hx.2
  refine ⟨?_, ?_⟩
  · rw [Rat.neg_num]; omega
  · rw [Rat.neg_den]; exact h2
theorem Sz.int {k : Int} (h : k.natAbs < 2 ^ n) (h1 : 0 < n) : Sz n (k : Rat) := by
  refine ⟨h, ?_⟩
  rw [Rat.den_intCast]
  exact Nat.one_lt_two_pow (by omega)
theorem Sz.fr (hx : Sz n x) : Sz n (Wk.fr x) := by
  refine ⟨?_, ?_⟩
  · rw [fr_num]
    have a := Int.emod_nonneg x.num (den_ne x)
    have b := Int.emod_lt_of_pos x.num (den_gt x)
    have c := hx.2
    omega
  · rw [fr_den]
    exact hx.2
theorem Sz.floor (hx : Sz n x) : x.floor.natAbs ≤ 2 ^ n := by
  rw [Rat.floor_def]
  have a := hx.1
  have d := den_gt x
  have h1 : -(x.num.natAbs : Int) ≤ x.num / (x.den : Int) := by
    apply Int.le_ediv_of_mul_le d
    have : (x.num.natAbs : Int) * 1 ≤ (x.num.natAbs : Int) * (x.den : Int) := Int.mul_le_mul_of_nonneg_left (by omega) (by omega)
    rw [Int.neg_mul]
    omega
  have h2 : x.num / (x.den : Int) ≤ x.num.natAbs := by
    apply Int.le_trans (Int.ediv_le_ediv d (show x.num ≤ (x.num.natAbs : Int) by omega))
    exact Int.ediv_le_self _ (by omega)
  omega
end
/-- a fraction with a denominator that divides q and below b -/
theorem Sz.of_dv {q b k : Nat} {x : Rat} (hq : 0 < q) (n : Int) (e : x * (q : Rat) = (n : Rat)) (hn : n.natAbs < 2 ^ k) (h : q < 2 ^ k) : Sz k x := by
  have ex : x = Rat.divInt n q := by
    rw [Rat.divInt_eq_div, ← e, Rat.intCast_natCast]
    rw [Rat.mul_div_cancel]
    intro z
    have := Rat.natCast_eq_zero_iff.mp z
    omega
  rw [ex]
  exact .of_divInt (by omega) hn (by omega)
end Wk
set_option maxHeartbeats 1000000
namespace Wk
/-! ### meetings: rows (rate, start) -/
abbrev Rw : Type := Rat × Rat
/-- all rows have one place at m -/
def Mt (rows : List Rw) (m : Rat) : Prop := ∀ p ∈ rows, ∀ q ∈ rows, Whole ((p.2 + p.1 * m) - (q.2 + q.1 * m))
/-- all differences are whole at m -/
def Md (ds : List Rw) (m : Rat) : Prop := ∀ d ∈ ds, Whole (d.2 + d.1 * m)
def diffs (p : Rw) (ps : List Rw) : List Rw := ps.map fun q => (q.1 - p.1, q.2 - p.2)
theorem mt_md (p : Rw) (ps : List Rw) (m : Rat) : Mt (p :: ps) m ↔ Md (diffs p ps) m := by
  constructor
  · intro h d hd
    obtain ⟨q, hq, rfl⟩ := List.mem_map.mp hd
    have z := h q (List.mem_cons_of_mem _ hq) p List.mem_cons_self
    have e : q.2 - p.2 + (q.1 - p.1) * m = (q.2 + q.1 * m) - (p.2 + p.1 * m) := by grind
    show Whole (q.2 - p.2 + (q.1 - p.1) * m)
    rw [e]
    exact z
  · intro h
    have key : ∀ q ∈ p :: ps, Whole ((q.2 + q.1 * m) - (p.2 + p.1 * m)) := by
      intro q hq
      rcases List.mem_cons.mp hq with rfl | hq
      · rw [Rat.sub_self]; exact .zero
      · have z := h _ (List.mem_map.mpr ⟨q, hq, rfl⟩)
        have e : (q.2 + q.1 * m) - (p.2 + p.1 * m) = q.2 - p.2 + (q.1 - p.1) * m := by grind
        rw [e]
        exact z
    intro q hq r hr
    have e : (q.2 + q.1 * m) - (r.2 + r.1 * m) = ((q.2 + q.1 * m) - (p.2 + p.1 * m)) - ((r.2 + r.1 * m) - (p.2 + p.1 * m)) := by grind
    rw [e]
    exact (key q hq).sub (key r hr)
/-- none: never; (0, none): always; (first, interval) -/
abbrev Rule : Type := Option (Rat × Option Rat)
def Every (f I : Rat) (m : Rat) : Prop := ∃ k : Int, m = f + (k : Rat) * I
def RuleFor (M : Rat → Prop) : Rule → Prop
  | none => ∀ m, ¬ M m
  | some (f, none) => f = 0 ∧ ∀ m, M m
  | some (f, some I) => 0 < I ∧ 0 ≤ f ∧ f < I ∧ ∀ m, M m ↔ Every f I m
theorem every_first (f I : Rat) : Every f I f := ⟨0, by simp [Rat.add_zero]⟩
theorem int_small {k : Int} {I x : Rat} (hI : 0 < I) (h : (k : Rat) * I = x) (h1 : -I < x) (h2 : x < I) : k = 0 := by
  have a : (k : Rat) * I < 1 * I := by rw [h]; grind
  have b : (-1 : Rat) * I < (k : Rat) * I := by rw [h]; grind
  have a' := (Rat.mul_lt_mul_right hI).mp a
  have b' := (Rat.mul_lt_mul_right hI).mp b
  have a2 : (k : Rat) < ((1 : Int) : Rat) := by simpa using a'
  have b2 : ((-1 : Int) : Rat) < (k : Rat) := by simpa using b'
  rw [Rat.intCast_lt_intCast] at a2 b2
  omega
theorem every_inj {f I f' I' : Rat} (hI : 0 < I) (hI' : 0 < I') (f0 : 0 ≤ f) (f1 : f < I) (f0' : 0 ≤ f') (f1' : f' < I') (h : ∀ m, Every f I m ↔ Every f' I' m) : f = f' ∧ I = I' := by
  obtain ⟨a, ea⟩ := (h f).mp (every_first f I)
  obtain ⟨b, eb⟩ := (h (f + I)).mp ⟨1, by simp⟩
  obtain ⟨c, ec⟩ := (h f').mpr (every_first f' I')
  obtain ⟨d, ed⟩ := (h (f' + I')).mpr ⟨1, by simp⟩
  -- I = (b - a) I', I' = (d - c) I
  have e1 : I = ((b - a : Int) : Rat) * I' := by rw [Rat.intCast_sub]; grind
  have e2 : I' = ((d - c : Int) : Rat) * I := by rw [Rat.intCast_sub]; grind
  generalize hx : b - a = x at e1
  generalize hy : d - c = y at e2
  have xp : 0 < x := by
    rw [← Rat.intCast_pos]
    rw [e1] at hI
    exact (Rat.mul_pos_iff_of_pos_right hI').mp hI
  have yp : 0 < y := by
    rw [← Rat.intCast_pos]
    rw [e2] at hI'
    exact (Rat.mul_pos_iff_of_pos_right hI).mp hI'
  have xy : ((x * y : Int) : Rat) = 1 := by
    rw [Rat.intCast_mul]
    have : ((x : Rat) * (y : Rat) - 1) * I = 0 := by grind
    rcases Rat.mul_eq_zero.mp this with z | z
    · grind
    · exact absurd z (by grind)
  have xy' : x * y = 1 := by
    have z : ((x * y : Int) : Rat) = ((1 : Int) : Rat) := by simpa using xy
    exact Rat.intCast_inj.mp z
  have x1 : x = 1 := by
    have h1 : x * 1 ≤ x * y := Int.mul_le_mul_of_nonneg_left (by omega) (by omega)
    omega
  subst x1
  have eI : I = I' := by
    rw [e1]; simp
  subst eI
  refine ⟨?_, rfl⟩
  have z : a = 0 := int_small (x := f - f') hI (by grind) (by grind) (by grind)
  subst z
  simpa [Rat.add_zero] using ea
theorem rule_unique {M M' : Rat → Prop} (e : ∀ m, M m ↔ M' m) : ∀ {R R' : Rule}, RuleFor M R → RuleFor M' R' → R = R'
  | none, none, _, _ => rfl
  | none, some (f, none), h, h' => absurd ((e 0).mpr (h'.2 0)) (h 0)
  | none, some (f, some I), h, h' => absurd ((e f).mpr ((h'.2.2.2 f).mpr (every_first f I))) (h f)
  | some (f, none), none, h, h' => absurd ((e 0).mp (h.2 0)) (h' 0)
  | some (f, some I), none, h, h' => absurd ((e f).mp ((h.2.2.2 f).mpr (every_first f I))) (h' f)
  | some (f, none), some (f', none), h, h' => by rw [h.1, h'.1]
  | some (f, none), some (f', some I), h, h' => by
    exfalso
    obtain ⟨hI, a, b, c⟩ := h'
    obtain ⟨k, ek⟩ := (c (f' + I / 2)).mp ((e _).mp (h.2 _))
    have : ((2 * k : Int) : Rat) = ((1 : Int) : Rat) := by
      rw [Rat.intCast_mul]
      have z : ((2 : Int) : Rat) * (k : Rat) = 1 := by
        have : (2 * (k : Rat) - 1) * I = 0 := by grind
        rcases Rat.mul_eq_zero.mp this with q | q
        · have : ((2 : Int) : Rat) = 2 := rfl
          rw [this]
          grind
        · grind
      simpa using z
    have := Rat.intCast_inj.mp this
    omega
  | some (f', some I), some (f, none), h', h => by
    exfalso
    obtain ⟨hI, a, b, c⟩ := h'
    obtain ⟨k, ek⟩ := (c (f' + I / 2)).mp ((e _).mpr (h.2 _))
    have : ((2 * k : Int) : Rat) = ((1 : Int) : Rat) := by
      rw [Rat.intCast_mul]
      have z : ((2 : Int) : Rat) * (k : Rat) = 1 := by
        have : (2 * (k : Rat) - 1) * I = 0 := by grind
        rcases Rat.mul_eq_zero.mp this with q | q
        · have : ((2 : Int) : Rat) = 2 := rfl
          rw [this]
          grind
        · grind
      simpa using z
    have := Rat.intCast_inj.mp this
    omega
  | some (f, some I), some (f', some I'), ⟨a, b, c, d⟩, ⟨a', b', c', d'⟩ => by
    obtain ⟨e1, e2⟩ := every_inj a a' b c b' c' fun m => ((d m).symm.trans (e m)).trans (d' m)
    rw [e1, e2]
/-! ### the program's way: a measure -/
def wsum : List Int → List Rat → Rat
  | w :: ws, x :: xs => (w : Rat) * x + wsum ws xs
  | _, _ => 0
theorem wsum_snoc : ∀ (ws : List Int) (xs : List Rat) (w : Int) (x : Rat), ws.length = xs.length → wsum (ws ++ [w]) (xs ++ [x]) = wsum ws xs + (w : Rat) * x
  | [], [], w, x, _ => by simp [wsum, Rat.add_comm]
  | a :: ws, b :: xs, w, x, h => by
    have := wsum_snoc ws xs w x (by simpa using h)
    simp only [List.cons_append, wsum, this]
    grind
theorem wsum_mul (k : Int) : ∀ (ws : List Int) (xs : List Rat), wsum (ws.map (· * k)) xs = (k : Rat) * wsum ws xs
  | [], _ => by simp [wsum]
  | _ :: _, [] => by simp [wsum]
  | w :: ws, x :: xs => by
    simp only [List.map_cons, wsum, wsum_mul k ws xs, Rat.intCast_mul]
    grind
theorem wsum_take {ws : List Int} {xs : List Rat} {i : Nat} {w : Int} {x : Rat} (hw : ws[i]? = some w) (hx : xs[i]? = some x) : wsum (ws.take (i + 1)) (xs.take (i + 1)) = wsum (ws.take i) (xs.take i) + (w : Rat) * x := by
  have l1 := (List.getElem?_eq_some_iff.mp hw).1
  have l2 := (List.getElem?_eq_some_iff.mp hx).1
  rw [List.take_add_one, List.take_add_one, hw, hx]
  exact wsum_snoc _ _ _ _ (by simp; omega)
/-- s_i + r_i m, weighed -/
theorem wsum_whole (m : Rat) : ∀ (ws : List Int) (ds : List Rw), Md ds m → Whole (wsum ws (ds.map (·.2)) + wsum ws (ds.map (·.1)) * m)
  | [], _, _ => by simp only [wsum]; rw [Rat.zero_mul, Rat.add_zero]; exact .zero
  | _ :: _, [], _ => by simp only [wsum, List.map_nil]; rw [Rat.zero_mul, Rat.add_zero]; exact .zero
  | w :: ws, d :: ds, h => by
    have ih := wsum_whole m ws ds fun x hx => h x (List.mem_cons_of_mem _ hx)
    have h0 := h d List.mem_cons_self
    simp only [List.map_cons, wsum]
    have e : (w : Rat) * d.2 + wsum ws (ds.map (·.2)) + ((w : Rat) * d.1 + wsum ws (ds.map (·.1))) * m = (w : Rat) * (d.2 + d.1 * m) + (wsum ws (ds.map (·.2)) + wsum ws (ds.map (·.1)) * m) := by grind
    rw [e]
    exact ((Whole.int w).mul h0).add ih
/-- what measure_paper gives: the weights' sum, each a multiple -/
structure Meas (rs : List Rat) (g : Rat) (ws : List Int) : Prop where
  len : ws.length = rs.length
  nn : 0 ≤ g
  sum : wsum ws rs = g
  mul : ∀ r ∈ rs, ∃ c : Int, r = (c : Rat) * g
/-- the count of a rate -/
def cnt (g r : Rat) : Int := if g.num = 0 then 0 else (r / g).num
theorem cnt_eq {g r : Rat} (h : ∃ c : Int, r = (c : Rat) * g) : r = (cnt g r : Rat) * g := by
  obtain ⟨c, rfl⟩ := h
  unfold cnt
  by_cases hg : g.num = 0
  · have : g = 0 := Rat.num_eq_zero.mp hg
    subst this
    simp
  · rw [if_neg hg]
    have : g ≠ 0 := fun e => hg (Rat.num_eq_zero.mpr e)
    rw [Rat.mul_div_cancel this, Rat.num_intCast]
section
variable {ds : List Rw} {g : Rat} {ws : List Int}
theorem meas_never (M : Meas (ds.map (·.1)) g ws) {d : Rw} (hd : d ∈ ds) (h : ¬ Whole (d.2 - (cnt g d.1 : Rat) * wsum ws (ds.map (·.2)))) : ∀ m, ¬ Md ds m := by
  intro m hm
  apply h
  have w := wsum_whole m ws ds hm
  rw [M.sum] at w
  have r := cnt_eq (M.mul d.1 (List.mem_map.mpr ⟨d, hd, rfl⟩))
  have e : d.2 - (cnt g d.1 : Rat) * wsum ws (ds.map (·.2)) = (d.2 + d.1 * m) - (cnt g d.1 : Rat) * (wsum ws (ds.map (·.2)) + g * m) := by
    generalize cnt g d.1 = c at *
    grind
  rw [e]
  exact (hm d hd).sub ((Whole.int _).mul w)
theorem meas_iff (M : Meas (ds.map (·.1)) g ws) (h : ∀ d ∈ ds, Whole (d.2 - (cnt g d.1 : Rat) * wsum ws (ds.map (·.2)))) (m : Rat) : Md ds m ↔ (g = 0 ∨ Whole (wsum ws (ds.map (·.2)) + g * m)) := by
  constructor
  · intro hm
    have w := wsum_whole m ws ds hm
    rw [M.sum] at w
    exact .inr w
  · rintro hw d hd
    have r := cnt_eq (M.mul d.1 (List.mem_map.mpr ⟨d, hd, rfl⟩))
    have z := h d hd
    rcases hw with rfl | hw
    · have : cnt 0 d.1 = 0 := by simp [cnt]
      rw [this] at z r
      have e : d.2 + d.1 * m = d.2 - ((0 : Int) : Rat) * wsum ws (ds.map (·.2)) := by
        rw [r]; simp; grind
      rw [e]
      exact z
    · have e : d.2 + d.1 * m = (d.2 - (cnt g d.1 : Rat) * wsum ws (ds.map (·.2))) + (cnt g d.1 : Rat) * (wsum ws (ds.map (·.2)) + g * m) := by
        generalize cnt g d.1 = c at *
        grind
      rw [e]
      exact z.add ((Whole.int _).mul hw)
/-- g > 0: the meetings -/
theorem meas_every (M : Meas (ds.map (·.1)) g ws) (h : ∀ d ∈ ds, Whole (d.2 - (cnt g d.1 : Rat) * wsum ws (ds.map (·.2)))) (hg : g ≠ 0) :
    RuleFor (Md ds) (some (fr (0 - wsum ws (ds.map (·.2))) * (1 / g), some (1 / g))) := by
  have gp : 0 < g := Rat.lt_of_le_of_ne M.nn (Ne.symm hg)
  have ip : 0 < 1 / g := by
    rw [Rat.lt_div_iff gp]
    grind
  have ig : g * (1 / g) = 1 := by
    rw [Rat.div_def, Rat.one_mul]
    exact Rat.mul_inv_cancel g hg
  generalize hI : 1 / g = I at *
  generalize hA : wsum ws (ds.map (·.2)) = A at *
  refine ⟨ip, Rat.mul_nonneg (fr_nn _) (Rat.le_of_lt ip), ?_, fun m => ?_⟩
  · have := fr_lt (0 - A)
    have z := Rat.mul_lt_mul_of_pos_right this ip
    rw [Rat.one_mul] at z
    exact z
  · rw [meas_iff M (by rw [hA]; exact h) m]
    rw [hA]
    have ef : fr (0 - A) = (0 - A) - ((0 - A).floor : Rat) := rfl
    generalize (0 - A).floor = t at ef
    rw [ef]
    constructor
    · rintro (z | ⟨n, hn⟩)
      · exact absurd z hg
      · refine ⟨n + t, ?_⟩
        rw [Rat.intCast_add]
        have : m = (g * I) * m := by rw [ig, Rat.one_mul]
        grind
    · rintro ⟨k, hk⟩
      refine .inr ⟨k - t, ?_⟩
      rw [hk, Rat.intCast_sub]
      grind
theorem meas_always (M : Meas (ds.map (·.1)) g ws) (h : ∀ d ∈ ds, Whole (d.2 - (cnt g d.1 : Rat) * wsum ws (ds.map (·.2)))) (hg : g = 0) : RuleFor (Md ds) (some (0, none)) :=
  ⟨rfl, fun m => (meas_iff M h m).mpr (.inl hg)⟩
end
/-! ### the law's way: one row after another -/
/-- what is known behind some rows -/
def Sofar (ds : List Rw) (b : Option Rat) (st : Rat) : Prop := match b with
  | none => ∀ m, Md ds m
  | some b => 0 < st ∧ ∀ m, Md ds m ↔ ∃ k : Int, m = b + (k : Rat) * st
theorem md_snoc (ds : List Rw) (d : Rw) (m : Rat) : Md (ds ++ [d]) m ↔ Md ds m ∧ Whole (d.2 + d.1 * m) := by
  constructor
  · intro h
    exact ⟨fun x hx => h x (List.mem_append_left _ hx), h d (List.mem_append_right _ (List.mem_singleton.mpr rfl))⟩
  · rintro ⟨h1, h2⟩ x hx
    rcases List.mem_append.mp hx with hx | hx
    · exact h1 x hx
    · rw [List.mem_singleton.mp hx]; exact h2
section
variable {ds : List Rw} {d : Rw} {b : Option Rat} {st : Rat}
theorem sofar_nil (st : Rat) : Sofar [] none st := fun m d hd => by cases hd
/-- a still row that fits -/
theorem sofar_still (S : Sofar ds b st) (h : d.1 = 0) (hw : Whole d.2) : Sofar (ds ++ [d]) b st := by
  have z : ∀ m, Whole (d.2 + d.1 * m) := fun m => by rw [h, Rat.zero_mul, Rat.add_zero]; exact hw
  cases b with
  | none => exact fun m => (md_snoc ds d m).mpr ⟨S m, z m⟩
  | some b => exact ⟨S.1, fun m => ((md_snoc ds d m).trans ⟨fun q => q.1, fun q => ⟨q, z m⟩⟩).trans (S.2 m)⟩
theorem sofar_never (h : d.1 = 0) (hw : ¬ Whole d.2) : ∀ m, ¬ Md (ds ++ [d]) m := fun m hm => hw (by
  have z := ((md_snoc ds d m).mp hm).2
  rw [h, Rat.zero_mul, Rat.add_zero] at z
  exact z)
/-- the first row that moves: its step is one turn -/
theorem sofar_first (S : Sofar ds none st) (h : d.1 ≠ 0) {s : Rat} (hs : s = 1 / d.1 ∨ s = -(1 / d.1)) (hp : 0 < s) : Sofar (ds ++ [d]) (some (0 - d.2 / d.1)) s := by
  refine ⟨hp, fun m => ?_⟩
  rw [md_snoc]
  have e1 : d.1 * (1 / d.1) = 1 := by
    rw [Rat.div_def, Rat.one_mul]
    exact Rat.mul_inv_cancel _ h
  have e2 : d.1 * (d.2 / d.1) = d.2 := by rw [Rat.mul_comm]; exact Rat.div_mul_cancel h
  generalize 1 / d.1 = v at *
  generalize d.2 / d.1 = u at *
  have key : ∀ k : Int, m = 0 - u + (k : Rat) * v ↔ d.2 + d.1 * m = (k : Rat) := fun k => by
    constructor
    · intro hm; rw [hm]; grind
    · intro hk
      have : m = (d.1 * v) * m := by rw [e1, Rat.one_mul]
      grind
  constructor
  · rintro ⟨_, k, hk⟩
    rcases hs with rfl | rfl
    · exact ⟨k, (key k).mpr hk⟩
    · refine ⟨-k, ?_⟩
      have := (key k).mpr hk
      rw [Rat.intCast_neg]
      grind
  · rintro ⟨k, hk⟩
    refine ⟨S m, ?_⟩
    rcases hs with rfl | rfl
    · exact ⟨k, (key k).mp hk⟩
    · refine ⟨-k, (key (-k)).mp ?_⟩
      rw [Rat.intCast_neg]
      grind
/-- the next row that moves, by move and left -/
theorem left_move_dvd {mv lf : Rat} {k : Int} (h : Whole (lf + (k : Rat) * mv)) : (lf.den : Int) ∣ (mv.den : Int) := by
  obtain ⟨n, hn⟩ := h
  -- lf = n - k mv: its denominator divides mv's
  have e : lf * (mv.den : Rat) = ((n * (mv.den : Int) - k * mv.num : Int) : Rat) := by
    have q : mv * (mv.den : Rat) = (mv.num : Rat) := by
      have z := Rat.num_divInt_den mv
      rw [Rat.divInt_eq_div] at z
      have dn : (((mv.den : Int) : Int) : Rat) ≠ 0 := fun e => den_ne mv (Rat.intCast_eq_zero_iff.mp e)
      conv => lhs; lhs; rw [← z]
      rw [Rat.intCast_natCast] at dn ⊢
      exact Rat.div_mul_cancel dn
    rw [Rat.intCast_sub, Rat.intCast_mul, Rat.intCast_mul, Rat.intCast_natCast]
    grind
  generalize n * (mv.den : Int) - k * mv.num = N at e
  have q : lf * (lf.den : Rat) = (lf.num : Rat) := by
    have z := Rat.num_divInt_den lf
    rw [Rat.divInt_eq_div] at z
    have dn : (((lf.den : Int) : Int) : Rat) ≠ 0 := fun e => den_ne lf (Rat.intCast_eq_zero_iff.mp e)
    conv => lhs; lhs; rw [← z]
    rw [Rat.intCast_natCast] at dn ⊢
    exact Rat.div_mul_cancel dn
  -- lf.num * mv.den = N * lf.den
  have z : ((lf.num * (mv.den : Int) : Int) : Rat) = ((N * (lf.den : Int) : Int) : Rat) := by
    rw [Rat.intCast_mul, Rat.intCast_mul, Rat.intCast_natCast, Rat.intCast_natCast, ← q, ← e]
    grind
  have z := Rat.intCast_inj.mp z
  have dv : (lf.den : Int) ∣ lf.num * (mv.den : Int) := ⟨N, by rw [z]; exact Int.mul_comm _ _⟩
  have dn : lf.den ∣ lf.num.natAbs * mv.den := by
    have := Int.natAbs_dvd_natAbs.mpr dv
    rw [Int.natAbs_mul] at this
    simpa using this
  exact Int.natCast_dvd_natCast.mpr (Nat.Coprime.dvd_of_dvd_mul_left (Nat.Coprime.symm lf.reduced) dn)
theorem times_den (x : Rat) : x * (x.den : Rat) = (x.num : Rat) := by
  have z := Rat.num_divInt_den x
  rw [Rat.divInt_eq_div] at z
  have dn : (((x.den : Int) : Int) : Rat) ≠ 0 := fun e => den_ne x (Rat.intCast_eq_zero_iff.mp e)
  conv => lhs; lhs; rw [← z]
  rw [Rat.intCast_natCast] at dn ⊢
  exact Rat.div_mul_cancel dn
theorem whole_dvd {x : Rat} {q : Nat} {N : Int} (hq : 0 < q) (e : x * (q : Rat) = (N : Rat)) : Whole x ↔ (q : Int) ∣ N := by
  have qn : (q : Rat) ≠ 0 := fun z => by
    have := Rat.natCast_eq_zero_iff.mp z
    omega
  constructor
  · rintro ⟨n, rfl⟩
    refine ⟨n, ?_⟩
    rw [← Rat.intCast_natCast, ← Rat.intCast_mul] at e
    rw [← Rat.intCast_inj.mp e, Int.mul_comm]
  · rintro ⟨n, rfl⟩
    refine ⟨n, ?_⟩
    rw [Rat.intCast_mul, Rat.intCast_natCast] at e
    have : (x - (n : Rat)) * (q : Rat) = 0 := by grind
    rcases Rat.mul_eq_zero.mp this with z | z
    · grind
    · exact absurd z qn
/-- the whole places of lf + k mv -/
theorem crt {mv lf : Rat} {u v : Int} (dv : (lf.den : Int) ∣ (mv.den : Int)) (hu : u * mv.num + v * (mv.den : Int) = 1) (k : Int) :
    Whole (lf + (k : Rat) * mv) ↔ ∃ j : Int, k = (-lf.num * ((mv.den : Int) / (lf.den : Int)) * u) % (mv.den : Int) + j * (mv.den : Int) := by
  obtain ⟨c, hc⟩ := dv
  have ec : (mv.den : Int) / (lf.den : Int) = c := by rw [hc]; exact Int.mul_ediv_cancel_left c (den_ne lf)
  rw [ec]
  have e : (lf + (k : Rat) * mv) * (mv.den : Rat) = ((lf.num * c + k * mv.num : Int) : Rat) := by
    have q1 := times_den lf
    have q2 := times_den mv
    have q3 : (mv.den : Rat) = (lf.den : Rat) * (c : Rat) := by
      have : ((mv.den : Int) : Rat) = (((lf.den : Int) * c : Int) : Rat) := by rw [hc]
      rw [Rat.intCast_mul, Rat.intCast_natCast, Rat.intCast_natCast] at this
      exact this
    rw [Rat.intCast_add, Rat.intCast_mul, Rat.intCast_mul]
    grind
  rw [whole_dvd mv.den_pos e]
  generalize (mv.den : Int) = q at *
  generalize lf.num = b at *
  generalize mv.num = a at *
  have em := Int.emod_add_mul_ediv (-b * c * u) q
  generalize (-b * c * u) % q = r at *
  generalize (-b * c * u) / q = s at *
  constructor
  · rintro ⟨n, hn⟩
    refine ⟨v * k + n * u + s, ?_⟩
    grind
  · rintro ⟨j, hj⟩
    refine ⟨j * a + b * c * v - s * a, ?_⟩
    grind
section
variable {ds : List Rw} {d : Rw} {b st : Rat}
theorem at_step (m k : Rat) (h : m = b + k * st) : d.2 + d.1 * m = (d.1 * b + d.2) + k * (d.1 * st) := by
  rw [h]; grind
theorem sofar_apart (S : Sofar ds (some b) st) (h : ¬ ((d.1 * b + d.2).den : Int) ∣ ((d.1 * st).den : Int)) : ∀ m, ¬ Md (ds ++ [d]) m := fun m hm => by
  obtain ⟨h1, h2⟩ := (md_snoc ds d m).mp hm
  obtain ⟨k, hk⟩ := (S.2 m).mp h1
  rw [at_step m (k : Rat) hk] at h2
  exact h (left_move_dvd h2)
theorem sofar_next {u v : Int} (S : Sofar ds (some b) st) (dv : ((d.1 * b + d.2).den : Int) ∣ ((d.1 * st).den : Int)) (hu : u * (d.1 * st).num + v * ((d.1 * st).den : Int) = 1) :
    Sofar (ds ++ [d]) (some (b + st * (((-(d.1 * b + d.2).num * (((d.1 * st).den : Int) / ((d.1 * b + d.2).den : Int)) * u) % ((d.1 * st).den : Int) : Int) : Rat))) (st * ((d.1 * st).den : Rat)) := by
  have c := crt dv hu
  have q0 : (0 : Rat) < ((d.1 * st).den : Rat) := Rat.natCast_pos.mpr (Rat.den_pos _)
  refine ⟨Rat.mul_pos S.1 q0, fun m => ?_⟩
  rw [md_snoc, S.2 m]
  generalize (-(d.1 * b + d.2).num * (((d.1 * st).den : Int) / ((d.1 * b + d.2).den : Int)) * u) % ((d.1 * st).den : Int) = r at *
  constructor
  · rintro ⟨⟨k, hk⟩, hw⟩
    rw [at_step m (k : Rat) hk] at hw
    obtain ⟨j, hj⟩ := (c k).mp hw
    refine ⟨j, ?_⟩
    rw [hk, hj, Rat.intCast_add, Rat.intCast_mul, Rat.intCast_natCast]
    grind
  · rintro ⟨j, hj⟩
    have hk : m = b + ((r + j * ((d.1 * st).den : Int) : Int) : Rat) * st := by
      rw [hj, Rat.intCast_add, Rat.intCast_mul, Rat.intCast_natCast]
      grind
    refine ⟨⟨_, hk⟩, ?_⟩
    rw [at_step m _ hk]
    exact (c _).mpr ⟨j, rfl⟩
/-- the end: the base brought into the first interval -/
theorem sofar_end (S : Sofar ds (some b) st) : RuleFor (Md ds) (some (b - st * ((b / st).floor : Rat), some st)) := by
  have h0 := S.1
  have hf1 := Rat.floor_le (b / st)
  have hf2 := Rat.lt_floor_add_one (b / st)
  have e : b / st * st = b := Rat.div_mul_cancel (fun z => by rw [z] at h0; exact Rat.lt_irrefl h0)
  rw [Rat.intCast_add] at hf2
  generalize (b / st).floor = t at *
  have a1 := Rat.mul_le_mul_of_nonneg_right hf1 (Rat.le_of_lt h0)
  have a2 := Rat.mul_lt_mul_of_pos_right hf2 h0
  rw [e] at a1 a2
  refine ⟨h0, by grind, by simp at a2; grind, fun m => ?_⟩
  rw [S.2 m]
  constructor
  · rintro ⟨k, hk⟩
    refine ⟨k + t, ?_⟩
    rw [hk, Rat.intCast_add]
    grind
  · rintro ⟨k, hk⟩
    refine ⟨k - t, ?_⟩
    rw [hk, Rat.intCast_sub]
    grind
theorem sofar_all (S : Sofar ds none st) : RuleFor (Md ds) (some (0, none)) := ⟨rfl, S⟩
end
end
end Wk
set_option maxHeartbeats 1000000
namespace Wk
/-! ### the moments first + k * interval of a span -/
def loK (f I a : Rat) : Int := -((f - a) / I).floor
def hiK (f I b : Rat) : Int := ((b - f) / I).floor
def listK (f I : Rat) (lo hi : Int) : List Rat := (List.range (hi + 1 - lo).toNat).map fun (j : Nat) => f + ((lo + (j : Int) : Int) : Rat) * I
inductive Res where
  | told (l : List Rat)
  | endless
  | many
def stepsRes (f I a b : Rat) : Res := if hiK f I b - loK f I a ≥ 400 then .many else .told (listK f I (loK f I a) (hiK f I b))
def dueRes : Rule → Rat → Rat → Res
  | none, _, _ => .told []
  | some (_, none), _, _ => .endless
  | some (f, some I), a, b => stepsRes f I a b
section
variable {f I a b : Rat}
theorem lo_iff (hI : 0 < I) (k : Int) : loK f I a ≤ k ↔ a ≤ f + (k : Rat) * I := by
  unfold loK
  have e : (f - a) / I * I = f - a := Rat.div_mul_cancel (fun z => by rw [z] at hI; exact Rat.lt_irrefl hI)
  have h : -k ≤ ((f - a) / I).floor ↔ ((-k : Int) : Rat) ≤ (f - a) / I := Rat.le_floor_iff
  rw [Rat.intCast_neg] at h
  generalize (f - a) / I = x at *
  have : -(k : Rat) ≤ x ↔ a ≤ f + (k : Rat) * I := by
    constructor
    · intro q
      have := Rat.mul_le_mul_of_nonneg_right q (Rat.le_of_lt hI)
      grind
    · intro q
      refine Rat.le_of_mul_le_mul_right (c := I) ?_ hI
      grind
  rw [← this, ← h]
  omega
theorem hi_iff (hI : 0 < I) (k : Int) : k ≤ hiK f I b ↔ f + (k : Rat) * I ≤ b := by
  unfold hiK
  have e : (b - f) / I * I = b - f := Rat.div_mul_cancel (fun z => by rw [z] at hI; exact Rat.lt_irrefl hI)
  have h : k ≤ ((b - f) / I).floor ↔ (k : Rat) ≤ (b - f) / I := Rat.le_floor_iff
  generalize (b - f) / I = x at *
  rw [h]
  constructor
  · intro q
    have := Rat.mul_le_mul_of_nonneg_right q (Rat.le_of_lt hI)
    grind
  · intro q
    refine Rat.le_of_mul_le_mul_right (c := I) ?_ hI
    grind
theorem mem_listK (hI : 0 < I) (m : Rat) : m ∈ listK f I (loK f I a) (hiK f I b) ↔ (a ≤ m ∧ m ≤ b) ∧ Every f I m := by
  unfold listK
  rw [List.mem_map]
  constructor
  · rintro ⟨j, hj, rfl⟩
    rw [List.mem_range] at hj
    refine ⟨⟨(lo_iff hI _).mp (by omega), (hi_iff hI _).mp (by omega)⟩, _, rfl⟩
  · rintro ⟨⟨h1, h2⟩, k, rfl⟩
    have l := (lo_iff hI k).mpr h1
    have h := (hi_iff hI k).mpr h2
    refine ⟨(k - loK f I a).toNat, List.mem_range.mpr (by omega), ?_⟩
    rw [show loK f I a + ((k - loK f I a).toNat : Int) = k by omega]
/-- strictly ascending -/
abbrev Asc (l : List Rat) : Prop := l.Pairwise (· < ·)
theorem asc_listK (hI : 0 < I) (lo hi : Int) : Asc (listK f I lo hi) := by
  unfold listK
  refine List.Pairwise.map _ (R := (· < ·)) (fun i j h => ?_) List.pairwise_lt_range
  have q : ((lo + (i : Int) : Int) : Rat) < ((lo + (j : Int) : Int) : Rat) := Rat.intCast_lt_intCast.mpr (by omega)
  have := Rat.mul_lt_mul_of_pos_right q hI
  grind
theorem asc_eq : ∀ {l l' : List Rat}, Asc l → Asc l' → (∀ m, m ∈ l ↔ m ∈ l') → l = l'
  | [], [], _, _, _ => rfl
  | [], x :: l', _, _, h => by have := (h x).mpr List.mem_cons_self; cases this
  | x :: l, [], _, _, h => by have := (h x).mp List.mem_cons_self; cases this
  | x :: l, y :: l', a, b, h => by
    obtain ⟨a1, a2⟩ := List.pairwise_cons.mp a
    obtain ⟨b1, b2⟩ := List.pairwise_cons.mp b
    have exy : x = y := by
      rcases List.mem_cons.mp ((h x).mp List.mem_cons_self) with q | q
      · exact q
      · rcases List.mem_cons.mp ((h y).mpr List.mem_cons_self) with r | r
        · exact r.symm
        · have := a1 y r
          have := b1 x q
          grind
    subst exy
    congr 1
    refine asc_eq a2 b2 fun m => ?_
    constructor
    · intro q
      rcases List.mem_cons.mp ((h m).mp (List.mem_cons_of_mem _ q)) with r | r
      · have := a1 m q
        rw [r] at this
        exact absurd this Rat.lt_irrefl
      · exact r
    · intro q
      rcases List.mem_cons.mp ((h m).mpr (List.mem_cons_of_mem _ q)) with r | r
      · have := b1 m q
        rw [r] at this
        exact absurd this Rat.lt_irrefl
      · exact r
/-- how the program counts -/
theorem more_eq (hI : 0 < I) : ((b - (f + ((loK f I a : Int) : Rat) * I)) / I).floor = hiK f I b - loK f I a := by
  unfold hiK
  have hne : I ≠ 0 := fun z => by rw [z] at hI; exact Rat.lt_irrefl hI
  have e : (b - (f + ((loK f I a : Int) : Rat) * I)) / I = (b - f) / I + ((-(loK f I a) : Int) : Rat) := by
    rw [Rat.intCast_neg]
    have q1 : (b - (f + ((loK f I a : Int) : Rat) * I)) / I * I = b - (f + ((loK f I a : Int) : Rat) * I) := Rat.div_mul_cancel hne
    have q2 : (b - f) / I * I = b - f := Rat.div_mul_cancel hne
    have : ((b - (f + ((loK f I a : Int) : Rat) * I)) / I - ((b - f) / I + -((loK f I a : Int) : Rat))) * I = 0 := by grind
    rcases Rat.mul_eq_zero.mp this with z | z
    · grind
    · exact absurd z hne
  rw [e, Rat.floor_add_intCast]
  omega
theorem late_iff (hI : 0 < I) : b < f + ((loK f I a : Int) : Rat) * I ↔ hiK f I b < loK f I a := by
  have := hi_iff (f := f) (b := b) hI (loK f I a)
  rw [← Rat.not_le, ← this]
  omega
end
/-! ### visits -/
/-- the cycle is at the place 0 -/
def At0 (d : Rw) (m : Rat) : Prop := Whole (d.2 + d.1 * m)
def absR (x : Rat) : Rat := if x < 0 then -x else x
theorem absR_pos {x : Rat} (h : x ≠ 0) : 0 < absR x := by
  unfold absR
  split
  · grind
  · have := Rat.lt_of_le_of_ne (Rat.not_lt.mp ‹_›) (Ne.symm h)
    exact this
def visitsRes (d : Rw) (a b : Rat) : Res := if d.1 = 0 then (if d.2 = 0 then .endless else .told []) else stepsRes ((0 - d.2) / d.1) (absR (1 / d.1)) a b
theorem per_cases {x : Rat} : absR (1 / x) = 1 / x ∨ absR (1 / x) = -(1 / x) := by
  unfold absR
  split
  · exact .inr rfl
  · exact .inl rfl
theorem inv_ne {x : Rat} (h : x ≠ 0) : 1 / x ≠ 0 := fun z => by
  have e : x * (1 / x) = 1 := by
    rw [Rat.div_def, Rat.one_mul]
    exact Rat.mul_inv_cancel x h
  rw [z, Rat.mul_zero] at e
  exact absurd e (by decide)
theorem every_at0 {d : Rw} (h : d.1 ≠ 0) (m : Rat) : Every ((0 - d.2) / d.1) (absR (1 / d.1)) m ↔ At0 d m := by
  have S : Sofar [d] (some (0 - d.2 / d.1)) (absR (1 / d.1)) := sofar_first (ds := []) (sofar_nil 0) h per_cases (absR_pos (inv_ne h))
  have e : (0 - d.2) / d.1 = 0 - d.2 / d.1 := by
    rw [Rat.div_def, Rat.div_def]
    grind
  rw [e]
  have := S.2 m
  unfold Every At0
  rw [← this]
  unfold Md
  simp
/-- the wished span is short: no more than 25 visits -/
theorem short_steps {f I a b : Rat} (hI : 0 < I) (hab : a ≤ b) (h : b - a ≤ 24 * I) : hiK f I b - loK f I a < 400 := by
  by_cases hc : hiK f I b < loK f I a
  · omega
  · have l := (lo_iff (f := f) (a := a) hI (loK f I a)).mp (Int.le_refl _)
    have u := (hi_iff (f := f) (b := b) hI (hiK f I b)).mp (Int.le_refl _)
    have q : ((hiK f I b - loK f I a : Int) : Rat) * I ≤ 24 * I := by
      rw [Rat.intCast_sub]
      grind
    have q2 : ((hiK f I b - loK f I a : Int) : Rat) ≤ ((24 : Int) : Rat) := by
      have := Rat.le_of_mul_le_mul_right q hI
      simpa using this
    have := Rat.intCast_le_intCast.mp q2
    omega
theorem abs_mul_per {x : Rat} (h : x ≠ 0) : absR x * absR (1 / x) = 1 := by
  have e : x * (1 / x) = 1 := by
    rw [Rat.div_def, Rat.one_mul]
    exact Rat.mul_inv_cancel x h
  have px := absR_pos h
  have pi := absR_pos (inv_ne h)
  generalize 1 / x = y at *
  unfold absR at *
  by_cases h1 : x < 0 <;> by_cases h2 : y < 0 <;> simp only [h1, h2, if_true, if_false] at *
  · grind
  · have := Rat.mul_pos px pi
    grind
  · have := Rat.mul_pos px pi
    grind
  · exact e
theorem visits_told {d : Rw} {a b : Rat} (h : d.1 ≠ 0) (hab : a ≤ b) (hs : absR d.1 * (b - a) ≤ 24) :
    ∃ l, visitsRes d a b = .told l ∧ Asc l ∧ ∀ m, m ∈ l ↔ (a ≤ m ∧ m ≤ b) ∧ At0 d m := by
  have hI : 0 < absR (1 / d.1) := absR_pos (inv_ne h)
  have e := abs_mul_per h
  have sh : b - a ≤ 24 * absR (1 / d.1) := by
    have := Rat.mul_le_mul_of_nonneg_right hs (Rat.le_of_lt hI)
    generalize absR (1 / d.1) = P at *
    generalize absR d.1 = Q at *
    have e2 : Q * (b - a) * P = b - a := by
      have : Q * (b - a) * P = (b - a) * (Q * P) := by grind
      rw [this, e, Rat.mul_one]
    rw [e2] at this
    exact this
  have := short_steps (f := (0 - d.2) / d.1) hI hab sh
  unfold visitsRes stepsRes
  rw [if_neg h, if_neg (by omega)]
  exact ⟨_, rfl, asc_listK hI _ _, fun m => by rw [mem_listK hI, every_at0 h]⟩
theorem whole_place {x : Rat} (h0 : 0 ≤ x) (h1 : x < 1) (h : Whole x) : x = 0 := by
  obtain ⟨n, rfl⟩ := h
  have a : ((0 : Int) : Rat) ≤ (n : Rat) := by simpa using h0
  have b : (n : Rat) < ((1 : Int) : Rat) := by simpa using h1
  have a := Rat.intCast_le_intCast.mp a
  have b := Rat.intCast_lt_intCast.mp b
  rw [show n = 0 by omega]
  rfl
/-- the loop's next list -/
def isIn (l : List Rat) (m : Rat) : Bool := decide (m ∈ l)
/-- what the search has in common behind some rows -/
def Common (ds : List Rw) (a b : Rat) : Option (List Rat) → Prop
  | none => ∀ d ∈ ds, d = (0, 0)
  | some c => (∃ d ∈ ds, d ≠ (0, 0)) ∧ Asc c ∧ ∀ m, m ∈ c ↔ (a ≤ m ∧ m ≤ b) ∧ Md ds m
theorem common_nil (a b : Rat) : Common [] a b none := fun d hd => by cases hd
theorem at0_zero (m : Rat) : At0 (0, 0) m := by
  unfold At0
  show Whole (0 + 0 * m)
  rw [Rat.zero_mul, Rat.add_zero]
  exact .zero
section
variable {ds : List Rw} {a b : Rat} {c : Option (List Rat)}
theorem common_skip (C : Common ds a b c) : Common (ds ++ [(0, 0)]) a b c := by
  cases c with
  | none =>
    intro d hd
    rcases List.mem_append.mp hd with hd | hd
    · exact C d hd
    · exact List.mem_singleton.mp hd
  | some c =>
    obtain ⟨⟨d, hd, hn⟩, h2, h3⟩ := C
    refine ⟨⟨d, List.mem_append_left _ hd, hn⟩, h2, fun m => ?_⟩
    rw [h3 m, md_snoc]
    exact ⟨fun q => ⟨q.1, q.2, at0_zero m⟩, fun q => ⟨q.1, q.2.1⟩⟩
theorem common_next {d : Rw} {l : List Rat} (C : Common ds a b c) (hd : d ≠ (0, 0)) (hl : Asc l) (hm : ∀ m, m ∈ l ↔ (a ≤ m ∧ m ≤ b) ∧ At0 d m) :
    Common (ds ++ [d]) a b (some ((c.getD l).filter (isIn l))) := by
  refine ⟨⟨d, List.mem_append_right _ (List.mem_singleton.mpr rfl), hd⟩, ?_, fun m => ?_⟩
  · cases c with
    | none => exact List.Pairwise.filter _ hl
    | some c => exact List.Pairwise.filter _ C.2.1
  · rw [List.mem_filter, md_snoc]
    unfold isIn
    rw [decide_eq_true_eq, hm m]
    cases c with
    | none =>
      show m ∈ l ∧ _ ↔ _
      rw [hm m]
      constructor
      · rintro ⟨⟨q1, q2⟩, _⟩
        refine ⟨q1, fun e he => ?_, q2⟩
        rw [C e he]
        exact at0_zero m
      · rintro ⟨q1, _, q2⟩
        exact ⟨⟨q1, q2⟩, q1, q2⟩
    | some c =>
      show m ∈ c ∧ _ ↔ _
      rw [C.2.2 m]
      constructor
      · rintro ⟨⟨q1, q2⟩, _, q3⟩
        exact ⟨q1, q2, q3⟩
      · rintro ⟨q1, q2, q3⟩
        exact ⟨⟨q1, q2⟩, q1, q3⟩
def resC : Option (List Rat) → Res
  | none => .endless
  | some l => .told l
/-- the search against the rule -/
theorem common_due {R : Rule} (C : Common ds a b c) (hR : RuleFor (Md ds) R) (hab : a ≤ b) (hp : ∀ d ∈ ds, 0 ≤ d.2 ∧ d.2 < 1) (hs : ∀ d ∈ ds, absR d.1 * (b - a) ≤ 24) :
    dueRes R a b = resC c := by
  cases c with
  | none =>
    have all : ∀ m, Md ds m := fun m d hd => by
      rw [C d hd]
      exact at0_zero m
    have e := rule_unique (M := Md ds) (M' := Md ds) (fun _ => Iff.rfl) hR (R' := some (0, none)) ⟨rfl, all⟩
    rw [e]
    rfl
  | some l =>
    obtain ⟨⟨d, hd, hn⟩, hasc, hmem⟩ := C
    match R, hR with
    | none, hR =>
      have : l = [] := by
        cases l with
        | nil => rfl
        | cons x l => exact absurd ((hmem x).mp List.mem_cons_self).2 (hR x)
      subst this
      rfl
    | some (f, none), hR =>
      exfalso
      have w0 : Whole (d.2 + d.1 * 0) := hR.2 0 d hd
      rw [Rat.mul_zero, Rat.add_zero] at w0
      have d2 := whole_place (hp d hd).1 (hp d hd).2 w0
      by_cases d1 : d.1 = 0
      · exact hn (Prod.ext d1 d2)
      · have w1 : Whole (d.2 + d.1 * ((1 / d.1) / 2)) := hR.2 _ d hd
        have e : d.1 * (1 / d.1) = 1 := by
          rw [Rat.div_def, Rat.one_mul]
          exact Rat.mul_inv_cancel _ d1
        have e2 : d.2 + d.1 * ((1 / d.1) / 2) = 1 / 2 := by
          rw [d2]
          grind
        rw [e2] at w1
        have := whole_place (x := 1 / 2) (by grind) (by grind) w1
        grind
    | some (f, some I), hR =>
      obtain ⟨hI, f0, f1, hE⟩ := hR
      -- a row that moves
      have mv : ∃ e ∈ ds, e.1 ≠ 0 := by
        apply Classical.byContradiction
        intro no
        have still : ∀ e ∈ ds, e.1 = 0 := fun e he => Classical.byContradiction fun z => no ⟨e, he, z⟩
        have h1 := (hE f).mpr (every_first f I)
        have h2 : Md ds (f + I / 2) := fun e he => by
          have := h1 e he
          rw [still e he, Rat.zero_mul] at this ⊢
          exact this
        have e1 : RuleFor (fun m => Every f I m) (some (f, some I)) := ⟨hI, f0, f1, fun _ => Iff.rfl⟩
        have all : ∀ m, Md ds m := fun m e he => by
          have := h1 e he
          rw [still e he, Rat.zero_mul] at this ⊢
          exact this
        have := rule_unique (M := fun m => Every f I m) (M' := Md ds) (fun m => (hE m).symm) e1 (R' := some (0, none)) ⟨rfl, all⟩
        cases this
      obtain ⟨e, he, ne⟩ := mv
      have sh : b - a ≤ 24 * I := by
        have w1 := (hE f).mpr (every_first f I) e he
        have w2 := (hE (f + I)).mpr ⟨1, by simp⟩ e he
        have w := w2.sub w1
        have eq : e.2 + e.1 * (f + I) - (e.2 + e.1 * f) = e.1 * I := by grind
        rw [eq] at w
        obtain ⟨n, hn⟩ := w
        have nz : e.1 * I ≠ 0 := fun z => by
          rcases Rat.mul_eq_zero.mp z with q | q
          · exact ne q
          · rw [q] at hI; exact Rat.lt_irrefl hI
        have n0 : n ≠ 0 := fun z => nz (by rw [hn, z]; rfl)
        have ge : 1 ≤ absR e.1 * I := by
          have ab : absR e.1 * I = ((n.natAbs : Int) : Rat) := by
            unfold absR
            by_cases hneg : e.1 < 0
            · rw [if_pos hneg]
              have : n < 0 := by
                have q : e.1 * I < 0 := (Rat.mul_neg_iff_of_pos_right hI).mpr hneg
                rw [hn] at q
                exact Rat.intCast_neg_iff.mp q
              rw [show (n.natAbs : Int) = -n by omega, Rat.intCast_neg]
              grind
            · rw [if_neg hneg]
              have : 0 ≤ n := by
                have q : 0 ≤ e.1 * I := Rat.mul_nonneg (Rat.not_lt.mp hneg) (Rat.le_of_lt hI)
                rw [hn] at q
                exact Rat.intCast_nonneg.mp q
              rw [show (n.natAbs : Int) = n by omega, hn]
          rw [ab]
          have : ((1 : Int) : Rat) ≤ ((n.natAbs : Int) : Rat) := Rat.intCast_le_intCast.mpr (by omega)
          simpa using this
        have p := absR_pos ne
        have s := hs e he
        refine Rat.le_of_mul_le_mul_left (c := absR e.1) ?_ p
        have := Rat.mul_le_mul_of_nonneg_left ge (show (0 : Rat) ≤ 24 by decide)
        have sd := hs e he
        generalize absR e.1 = Q at *
        have e3 : Q * (24 * I) = 24 * (Q * I) := by grind
        rw [e3]
        grind
      have lt := short_steps (f := f) hI hab sh
      show stepsRes f I a b = _
      unfold stepsRes
      rw [if_neg (by omega)]
      congr 1
      refine asc_eq (asc_listK hI _ _) hasc fun m => ?_
      rw [mem_listK hI, hmem m, hE m]
end
end Wk
set_option maxHeartbeats 4000000
namespace Wk
open PySem PySem.Spec PyProof.Rows L2
/-! ### the text by places -/
abbrev Pg : Program := PySem.Challenge.pw_wheelsky_k90_meetings_seen_from_a_cycle
def top (i : Nat) : Stmt := Pg.main.body.getD i (.Pass ⟨0, 0, 0, 0⟩)
abbrev ga := He.ga
/-- the default of Cycle's start -/
def dflCy (K : PySem.W.Frag) : Addr := He.dflAt ("Cycle", some "__init__") 0 K
abbrev FnP (K : PySem.W.Frag) (d : He.DefD) (fd : FuncData) : Prop := FunD K d.name d.qual d.params d.body d.scope (d.dvs K) (d.kws K) (He.fAd K d.at_) fd
abbrev S_BadValue_init : Stmt := inClass (top 3) 0
abbrev D_BadValue_init : He.DefD := ⟨("BadValue", some "__init__"), "__init__", "BadValue.__init__", defArgs S_BadValue_init, defBody S_BadValue_init, defScope S_BadValue_init, [], []⟩
abbrev S_TooMany_init : Stmt := inClass (top 7) 0
abbrev D_TooMany_init : He.DefD := ⟨("TooMany", some "__init__"), "__init__", "TooMany.__init__", defArgs S_TooMany_init, defBody S_TooMany_init, defScope S_TooMany_init, [], []⟩
abbrev S_NoName_init : Stmt := inClass (top 8) 0
abbrev D_NoName_init : He.DefD := ⟨("NoName", some "__init__"), "__init__", "NoName.__init__", defArgs S_NoName_init, defBody S_NoName_init, defScope S_NoName_init, [], []⟩
abbrev S_whole_number : Stmt := top 15
abbrev D_whole_number : He.DefD := ⟨("whole_number", none), "whole_number", "whole_number", defArgs S_whole_number, defBody S_whole_number, defScope S_whole_number, [], []⟩
abbrev S_common_divisor : Stmt := top 16
abbrev D_common_divisor : He.DefD := ⟨("common_divisor", none), "common_divisor", "common_divisor", defArgs S_common_divisor, defBody S_common_divisor, defScope S_common_divisor, [], []⟩
abbrev S_lowest : Stmt := top 17
abbrev D_lowest : He.DefD := ⟨("lowest", none), "lowest", "lowest", defArgs S_lowest, defBody S_lowest, defScope S_lowest, [], []⟩
abbrev S_precedes : Stmt := top 18
abbrev D_precedes : He.DefD := ⟨("precedes", none), "precedes", "precedes", defArgs S_precedes, defBody S_precedes, defScope S_precedes, [], []⟩
abbrev S_weighted_divisor : Stmt := top 19
abbrev D_weighted_divisor : He.DefD := ⟨("weighted_divisor", none), "weighted_divisor", "weighted_divisor", defArgs S_weighted_divisor, defBody S_weighted_divisor, defScope S_weighted_divisor, [], []⟩
abbrev S_joint_measure : Stmt := top 20
abbrev D_joint_measure : He.DefD := ⟨("joint_measure", none), "joint_measure", "joint_measure", defArgs S_joint_measure, defBody S_joint_measure, defScope S_joint_measure, [], []⟩
abbrev S_is_fraction : Stmt := top 23
abbrev D_is_fraction : He.DefD := ⟨("is_fraction", none), "is_fraction", "is_fraction", defArgs S_is_fraction, defBody S_is_fraction, defScope S_is_fraction, [], []⟩
abbrev S_check_pair : Stmt := top 24
abbrev D_check_pair : He.DefD := ⟨("check_pair", none), "check_pair", "check_pair", defArgs S_check_pair, defBody S_check_pair, defScope S_check_pair, [], []⟩
abbrev S_check_value : Stmt := top 25
abbrev D_check_value : He.DefD := ⟨("check_value", none), "check_value", "check_value", defArgs S_check_value, defBody S_check_value, defScope S_check_value, [], []⟩
abbrev S_plus : Stmt := top 26
abbrev D_plus : He.DefD := ⟨("plus", none), "plus", "plus", defArgs S_plus, defBody S_plus, defScope S_plus, [], []⟩
abbrev S_minus : Stmt := top 27
abbrev D_minus : He.DefD := ⟨("minus", none), "minus", "minus", defArgs S_minus, defBody S_minus, defScope S_minus, [], []⟩
abbrev S_times : Stmt := top 28
abbrev D_times : He.DefD := ⟨("times", none), "times", "times", defArgs S_times, defBody S_times, defScope S_times, [], []⟩
abbrev S_over : Stmt := top 29
abbrev D_over : He.DefD := ⟨("over", none), "over", "over", defArgs S_over, defBody S_over, defScope S_over, [], []⟩
abbrev S_compare : Stmt := top 30
abbrev D_compare : He.DefD := ⟨("compare", none), "compare", "compare", defArgs S_compare, defBody S_compare, defScope S_compare, [], []⟩
abbrev S_floor_of : Stmt := top 31
abbrev D_floor_of : He.DefD := ⟨("floor_of", none), "floor_of", "floor_of", defArgs S_floor_of, defBody S_floor_of, defScope S_floor_of, [], []⟩
abbrev S_part_of : Stmt := top 32
abbrev D_part_of : He.DefD := ⟨("part_of", none), "part_of", "part_of", defArgs S_part_of, defBody S_part_of, defScope S_part_of, [], []⟩
abbrev S_check_values : Stmt := top 33
abbrev D_check_values : He.DefD := ⟨("check_values", none), "check_values", "check_values", defArgs S_check_values, defBody S_check_values, defScope S_check_values, [], []⟩
abbrev S_measure_paper : Stmt := top 34
abbrev D_measure_paper : He.DefD := ⟨("measure_paper", none), "measure_paper", "measure_paper", defArgs S_measure_paper, defBody S_measure_paper, defScope S_measure_paper, [], []⟩
abbrev S_Span_init : Stmt := inClass (top 38) 0
abbrev D_Span_init : He.DefD := ⟨("Span", some "__init__"), "__init__", "Span.__init__", defArgs S_Span_init, defBody S_Span_init, defScope S_Span_init, [], []⟩
abbrev S_need_fraction : Stmt := top 41
abbrev D_need_fraction : He.DefD := ⟨("need_fraction", none), "need_fraction", "need_fraction", defArgs S_need_fraction, defBody S_need_fraction, defScope S_need_fraction, [], []⟩
abbrev S_need_place : Stmt := top 42
abbrev D_need_place : He.DefD := ⟨("need_place", none), "need_place", "need_place", defArgs S_need_place, defBody S_need_place, defScope S_need_place, [], []⟩
abbrev S_need_span : Stmt := top 43
abbrev D_need_span : He.DefD := ⟨("need_span", none), "need_span", "need_span", defArgs S_need_span, defBody S_need_span, defScope S_need_span, [], []⟩
abbrev S_next_step : Stmt := top 44
abbrev D_next_step : He.DefD := ⟨("next_step", none), "next_step", "next_step", defArgs S_next_step, defBody S_next_step, defScope S_next_step, [], []⟩
abbrev S_steps_within : Stmt := top 45
abbrev D_steps_within : He.DefD := ⟨("steps_within", none), "steps_within", "steps_within", defArgs S_steps_within, defBody S_steps_within, defScope S_steps_within, [], []⟩
abbrev S_Cycle_init : Stmt := inClass (top 46) 0
abbrev D_Cycle_init : He.DefD := ⟨("Cycle", some "__init__"), "__init__", "Cycle.__init__", defArgs S_Cycle_init, defBody S_Cycle_init, defScope S_Cycle_init, [.adr dflCy], []⟩
abbrev S_Cycle_eq : Stmt := inClass (top 46) 2
abbrev D_Cycle_eq : He.DefD := ⟨("Cycle", some "__eq__"), "__eq__", "Cycle.__eq__", defArgs S_Cycle_eq, defBody S_Cycle_eq, defScope S_Cycle_eq, [], []⟩
abbrev S_Cycle_sub : Stmt := inClass (top 46) 4
abbrev D_Cycle_sub : He.DefD := ⟨("Cycle", some "__sub__"), "__sub__", "Cycle.__sub__", defArgs S_Cycle_sub, defBody S_Cycle_sub, defScope S_Cycle_sub, [], []⟩
abbrev S_Cycle_visits : Stmt := inClass (top 46) 12
abbrev D_Cycle_visits : He.DefD := ⟨("Cycle", some "visits"), "visits", "Cycle.visits", defArgs S_Cycle_visits, defBody S_Cycle_visits, defScope S_Cycle_visits, [], []⟩
abbrev S_fits_name : Stmt := top 52
abbrev D_fits_name : He.DefD := ⟨("fits_name", none), "fits_name", "fits_name", defArgs S_fits_name, defBody S_fits_name, defScope S_fits_name, [], []⟩
abbrev S_need_name : Stmt := top 53
abbrev D_need_name : He.DefD := ⟨("need_name", none), "need_name", "need_name", defArgs S_need_name, defBody S_need_name, defScope S_need_name, [], []⟩
abbrev S_fits_rows : Stmt := top 54
abbrev D_fits_rows : He.DefD := ⟨("fits_rows", none), "fits_rows", "fits_rows", defArgs S_fits_rows, defBody S_fits_rows, defScope S_fits_rows, [], []⟩
abbrev S_cycle_named : Stmt := top 55
abbrev D_cycle_named : He.DefD := ⟨("cycle_named", none), "cycle_named", "cycle_named", defArgs S_cycle_named, defBody S_cycle_named, defScope S_cycle_named, [], []⟩
abbrev S_Sky_init : Stmt := inClass (top 56) 0
abbrev D_Sky_init : He.DefD := ⟨("Sky", some "__init__"), "__init__", "Sky.__init__", defArgs S_Sky_init, defBody S_Sky_init, defScope S_Sky_init, [], []⟩
abbrev S_Sky_iter : Stmt := inClass (top 56) 2
abbrev D_Sky_iter : He.DefD := ⟨("Sky", some "__iter__"), "__iter__", "Sky.__iter__", defArgs S_Sky_iter, defBody S_Sky_iter, defScope S_Sky_iter, [], []⟩
abbrev S_Sky_eq : Stmt := inClass (top 56) 4
abbrev D_Sky_eq : He.DefD := ⟨("Sky", some "__eq__"), "__eq__", "Sky.__eq__", defArgs S_Sky_eq, defBody S_Sky_eq, defScope S_Sky_eq, [], []⟩
abbrev S_Sky_seen_from : Stmt := inClass (top 56) 10
abbrev D_Sky_seen_from : He.DefD := ⟨("Sky", some "seen_from"), "seen_from", "Sky.seen_from", defArgs S_Sky_seen_from, defBody S_Sky_seen_from, defScope S_Sky_seen_from, [], []⟩
abbrev S_need_cycles : Stmt := top 60
abbrev D_need_cycles : He.DefD := ⟨("need_cycles", none), "need_cycles", "need_cycles", defArgs S_need_cycles, defBody S_need_cycles, defScope S_need_cycles, [], []⟩
abbrev S_weighed : Stmt := top 61
abbrev D_weighed : He.DefD := ⟨("weighed", none), "weighed", "weighed", defArgs S_weighed, defBody S_weighed, defScope S_weighed, [], []⟩
abbrev S_never_weights : Stmt := top 62
abbrev D_never_weights : He.DefD := ⟨("never_weights", none), "never_weights", "never_weights", defArgs S_never_weights, defBody S_never_weights, defScope S_never_weights, [], []⟩
abbrev S_meeting_rule : Stmt := top 63
abbrev D_meeting_rule : He.DefD := ⟨("meeting_rule", none), "meeting_rule", "meeting_rule", defArgs S_meeting_rule, defBody S_meeting_rule, defScope S_meeting_rule, [], []⟩
abbrev S_meeting_paper : Stmt := top 64
abbrev D_meeting_paper : He.DefD := ⟨("meeting_paper", none), "meeting_paper", "meeting_paper", defArgs S_meeting_paper, defBody S_meeting_paper, defScope S_meeting_paper, [], []⟩
abbrev S_meetings : Stmt := top 65
abbrev D_meetings : He.DefD := ⟨("meetings", none), "meetings", "meetings", defArgs S_meetings, defBody S_meetings, defScope S_meetings, [], []⟩
abbrev S__law_mixed : Stmt := top 67
abbrev D__law_mixed : He.DefD := ⟨("_law_mixed", none), "_law_mixed", "_law_mixed", defArgs S__law_mixed, defBody S__law_mixed, defScope S__law_mixed, [], []⟩
abbrev S__law_store : Stmt := top 68
abbrev D__law_store : He.DefD := ⟨("_law_store", none), "_law_store", "_law_store", defArgs S__law_store, defBody S__law_store, defScope S__law_store, [], []⟩
abbrev S__law_take : Stmt := top 69
abbrev D__law_take : He.DefD := ⟨("_law_take", none), "_law_take", "_law_take", defArgs S__law_take, defBody S__law_take, defScope S__law_take, [], []⟩
abbrev S__law_pick : Stmt := top 70
abbrev D__law_pick : He.DefD := ⟨("_law_pick", none), "_law_pick", "_law_pick", defArgs S__law_pick, defBody S__law_pick, defScope S__law_pick, [], []⟩
abbrev S__law_size : Stmt := top 71
abbrev D__law_size : He.DefD := ⟨("_law_size", none), "_law_size", "_law_size", defArgs S__law_size, defBody S__law_size, defScope S__law_size, [], []⟩
abbrev S__law_gcd : Stmt := top 72
abbrev D__law_gcd : He.DefD := ⟨("_law_gcd", none), "_law_gcd", "_law_gcd", defArgs S__law_gcd, defBody S__law_gcd, defScope S__law_gcd, [], []⟩
abbrev S__law_bezout : Stmt := top 73
abbrev D__law_bezout : He.DefD := ⟨("_law_bezout", none), "_law_bezout", "_law_bezout", defArgs S__law_bezout, defBody S__law_bezout, defScope S__law_bezout, [], []⟩
abbrev S__law_lowest : Stmt := top 74
abbrev D__law_lowest : He.DefD := ⟨("_law_lowest", none), "_law_lowest", "_law_lowest", defArgs S__law_lowest, defBody S__law_lowest, defScope S__law_lowest, [], []⟩
abbrev S__law_plus : Stmt := top 75
abbrev D__law_plus : He.DefD := ⟨("_law_plus", none), "_law_plus", "_law_plus", defArgs S__law_plus, defBody S__law_plus, defScope S__law_plus, [], []⟩
abbrev S__law_minus : Stmt := top 76
abbrev D__law_minus : He.DefD := ⟨("_law_minus", none), "_law_minus", "_law_minus", defArgs S__law_minus, defBody S__law_minus, defScope S__law_minus, [], []⟩
abbrev S__law_times : Stmt := top 77
abbrev D__law_times : He.DefD := ⟨("_law_times", none), "_law_times", "_law_times", defArgs S__law_times, defBody S__law_times, defScope S__law_times, [], []⟩
abbrev S__law_over : Stmt := top 78
abbrev D__law_over : He.DefD := ⟨("_law_over", none), "_law_over", "_law_over", defArgs S__law_over, defBody S__law_over, defScope S__law_over, [], []⟩
abbrev S__law_sign : Stmt := top 79
abbrev D__law_sign : He.DefD := ⟨("_law_sign", none), "_law_sign", "_law_sign", defArgs S__law_sign, defBody S__law_sign, defScope S__law_sign, [], []⟩
abbrev S__law_floor : Stmt := top 80
abbrev D__law_floor : He.DefD := ⟨("_law_floor", none), "_law_floor", "_law_floor", defArgs S__law_floor, defBody S__law_floor, defScope S__law_floor, [], []⟩
abbrev S__law_part : Stmt := top 81
abbrev D__law_part : He.DefD := ⟨("_law_part", none), "_law_part", "_law_part", defArgs S__law_part, defBody S__law_part, defScope S__law_part, [], []⟩
abbrev S__law_signs : Stmt := top 82
abbrev D__law_signs : He.DefD := ⟨("_law_signs", none), "_law_signs", "_law_signs", defArgs S__law_signs, defBody S__law_signs, defScope S__law_signs, [], []⟩
abbrev S__law_whole : Stmt := top 83
abbrev D__law_whole : He.DefD := ⟨("_law_whole", none), "_law_whole", "_law_whole", defArgs S__law_whole, defBody S__law_whole, defScope S__law_whole, [], []⟩
abbrev S__law_frac : Stmt := top 84
abbrev D__law_frac : He.DefD := ⟨("_law_frac", none), "_law_frac", "_law_frac", defArgs S__law_frac, defBody S__law_frac, defScope S__law_frac, [], []⟩
abbrev S__law_place : Stmt := top 85
abbrev D__law_place : He.DefD := ⟨("_law_place", none), "_law_place", "_law_place", defArgs S__law_place, defBody S__law_place, defScope S__law_place, [], []⟩
abbrev S__law_moment : Stmt := top 86
abbrev D__law_moment : He.DefD := ⟨("_law_moment", none), "_law_moment", "_law_moment", defArgs S__law_moment, defBody S__law_moment, defScope S__law_moment, [], []⟩
abbrev S__law_span_row : Stmt := top 87
abbrev D__law_span_row : He.DefD := ⟨("_law_span_row", none), "_law_span_row", "_law_span_row", defArgs S__law_span_row, defBody S__law_span_row, defScope S__law_span_row, [], []⟩
abbrev S__law_many : Stmt := top 88
abbrev D__law_many : He.DefD := ⟨("_law_many", none), "_law_many", "_law_many", defArgs S__law_many, defBody S__law_many, defScope S__law_many, [], []⟩
abbrev S__law_span_over : Stmt := top 89
abbrev D__law_span_over : He.DefD := ⟨("_law_span_over", none), "_law_span_over", "_law_span_over", defArgs S__law_span_over, defBody S__law_span_over, defScope S__law_span_over, [], []⟩
abbrev S__law_met : Stmt := top 90
abbrev D__law_met : He.DefD := ⟨("_law_met", none), "_law_met", "_law_met", defArgs S__law_met, defBody S__law_met, defScope S__law_met, [], []⟩
abbrev S__law_rule : Stmt := top 91
abbrev D__law_rule : He.DefD := ⟨("_law_rule", none), "_law_rule", "_law_rule", defArgs S__law_rule, defBody S__law_rule, defScope S__law_rule, [], []⟩
abbrev S__law_words : Stmt := top 92
abbrev D__law_words : He.DefD := ⟨("_law_words", none), "_law_words", "_law_words", defArgs S__law_words, defBody S__law_words, defScope S__law_words, [], []⟩
abbrev S__law_alike : Stmt := top 93
abbrev D__law_alike : He.DefD := ⟨("_law_alike", none), "_law_alike", "_law_alike", defArgs S__law_alike, defBody S__law_alike, defScope S__law_alike, [], []⟩
abbrev S__law_answer : Stmt := top 94
abbrev D__law_answer : He.DefD := ⟨("_law_answer", none), "_law_answer", "_law_answer", defArgs S__law_answer, defBody S__law_answer, defScope S__law_answer, [], []⟩
abbrev S__law_numbers_in : Stmt := top 95
abbrev D__law_numbers_in : He.DefD := ⟨("_law_numbers_in", none), "_law_numbers_in", "_law_numbers_in", defArgs S__law_numbers_in, defBody S__law_numbers_in, defScope S__law_numbers_in, [], []⟩
abbrev S__law_meetings_due : Stmt := top 96
abbrev D__law_meetings_due : He.DefD := ⟨("_law_meetings_due", none), "_law_meetings_due", "_law_meetings_due", defArgs S__law_meetings_due, defBody S__law_meetings_due, defScope S__law_meetings_due, [], []⟩
abbrev S__law_sky_for : Stmt := top 97
abbrev D__law_sky_for : He.DefD := ⟨("_law_sky_for", none), "_law_sky_for", "_law_sky_for", defArgs S__law_sky_for, defBody S__law_sky_for, defScope S__law_sky_for, [], []⟩
abbrev S__law_seen : Stmt := top 98
abbrev D__law_seen : He.DefD := ⟨("_law_seen", none), "_law_seen", "_law_seen", defArgs S__law_seen, defBody S__law_seen, defScope S__law_seen, [], []⟩
abbrev S__law_short_span : Stmt := top 99
abbrev D__law_short_span : He.DefD := ⟨("_law_short_span", none), "_law_short_span", "_law_short_span", defArgs S__law_short_span, defBody S__law_short_span, defScope S__law_short_span, [], []⟩
abbrev S__law_rows_right : Stmt := top 100
abbrev D__law_rows_right : He.DefD := ⟨("_law_rows_right", none), "_law_rows_right", "_law_rows_right", defArgs S__law_rows_right, defBody S__law_rows_right, defScope S__law_rows_right, [], []⟩
abbrev S__law_search_right : Stmt := top 101
abbrev D__law_search_right : He.DefD := ⟨("_law_search_right", none), "_law_search_right", "_law_search_right", defArgs S__law_search_right, defBody S__law_search_right, defScope S__law_search_right, [], []⟩
abbrev S__law_names_right : Stmt := top 102
abbrev D__law_names_right : He.DefD := ⟨("_law_names_right", none), "_law_names_right", "_law_names_right", defArgs S__law_names_right, defBody S__law_names_right, defScope S__law_names_right, [], []⟩
abbrev S_law : Stmt := top 103
abbrev D_law : He.DefD := ⟨("law", none), "law", "law", defArgs S_law, defBody S_law, defScope S_law, [], []⟩
def names0 : List Str := ["_wall", "SkyError", "BadValue", "Mismatch", "Still", "Endless", "TooMany", "NoName", "Taken", "Locked", "Looped", "Broken", "ReadError", "whole_number", "common_divisor", "lowest"]
def names1 : List Str := ["precedes", "weighted_divisor", "joint_measure", "MOST_VALUES", "is_fraction", "check_pair", "check_value", "plus", "minus", "times", "over", "compare", "floor_of", "part_of", "check_values", "measure_paper"]
def names2 : List Str := ["later_of", "earlier_of", "Span", "MOST_MOMENTS", "need_fraction", "need_place", "need_span", "next_step", "steps_within", "Cycle", "LETTERS", "DIGITS", "MOST_LETTERS", "MOST_CYCLES_skies", "fits_name", "need_name"]
def names3 : List Str := ["fits_rows", "cycle_named", "Sky", "LEAST_CYCLES", "MOST_CYCLES_meetings", "need_cycles", "weighed", "never_weights", "meeting_rule", "meeting_paper", "meetings", "_law_mixed", "_law_store", "_law_take", "_law_pick", "_law_size"]
def names4 : List Str := ["_law_gcd", "_law_bezout", "_law_lowest", "_law_plus", "_law_minus", "_law_times", "_law_over", "_law_sign", "_law_floor", "_law_part", "_law_signs", "_law_whole", "_law_frac", "_law_place", "_law_moment", "_law_span_row"]
def names5 : List Str := ["_law_many", "_law_span_over", "_law_met", "_law_rule", "_law_words", "_law_alike", "_law_answer", "_law_numbers_in", "_law_meetings_due", "_law_sky_for", "_law_seen", "_law_short_span", "_law_rows_right", "_law_search_right", "_law_names_right"]
def names : List Str := names0 ++ names1 ++ names2 ++ names3 ++ names4 ++ names5
def fa0 : List He.Fa := [.glo "SkyError", .glo "BadValue", .glo "Mismatch", .glo "Still", .glo "Endless", .glo "TooMany", .glo "NoName", .glo "Taken", .glo "Locked", .glo "Looped", .glo "Broken", .glo "ReadError", .glo "whole_number", .glo "common_divisor", .glo "lowest", .glo "precedes"]
def fa1 : List He.Fa := [.glo "weighted_divisor", .glo "joint_measure", .glo "is_fraction", .glo "check_pair", .glo "check_value", .glo "plus", .glo "minus", .glo "times", .glo "over", .glo "compare", .glo "floor_of", .glo "part_of", .glo "check_values", .glo "measure_paper", .glo "Span", .glo "need_fraction"]
def fa2 : List He.Fa := [.glo "need_place", .glo "need_span", .glo "next_step", .glo "steps_within", .glo "Cycle", .glo "fits_name", .glo "need_name", .glo "fits_rows", .glo "cycle_named", .glo "Sky", .glo "need_cycles", .glo "weighed", .glo "never_weights", .glo "meeting_rule", .glo "meeting_paper", .glo "meetings"]
def fa3 : List He.Fa := [.glo "_law_mixed", .glo "_law_store", .glo "_law_take", .glo "_law_pick", .glo "_law_size", .glo "_law_gcd", .glo "_law_bezout", .glo "_law_lowest", .glo "_law_plus", .glo "_law_minus", .glo "_law_times", .glo "_law_over", .glo "_law_sign", .glo "_law_floor", .glo "_law_part", .glo "_law_signs"]
def fa4 : List He.Fa := [.glo "_law_whole", .glo "_law_frac", .glo "_law_place", .glo "_law_moment", .glo "_law_span_row", .glo "_law_many", .glo "_law_span_over", .glo "_law_met", .glo "_law_rule", .glo "_law_words", .glo "_law_alike", .glo "_law_answer", .glo "_law_numbers_in", .glo "_law_meetings_due", .glo "_law_sky_for", .glo "_law_seen"]
def fa5 : List He.Fa := [.glo "_law_short_span", .glo "_law_rows_right", .glo "_law_search_right", .glo "_law_names_right", .glo "law", .free "isinstance", .free "int", .free "bool", .free "abs", .free "tuple", .free "len", .free "list", .free "all", .free "range", .free "zip", .free "sum"]
def fa6 : List He.Fa := [.free "enumerate", .free "str", .free "iter", .free "min", .free "ValueError", .int "MOST_VALUES" 12, .int "MOST_MOMENTS" 400, .int "MOST_LETTERS" 12, .int "MOST_CYCLES_skies" 8, .int "LEAST_CYCLES" 2, .int "MOST_CYCLES_meetings" 6, .str "LETTERS" "abcdefghijklmnopqrstuvwxyz", .str "DIGITS" "0123456789", .cls "Span", .mkr "Span", .cls "Cycle"]
def fa7 : List He.Fa := [.mkr "Cycle", .cls "Sky", .mkr "Sky", .noat "Span" "first", .noat "Span" "last", .noat "Span" "length", .noat "Cycle" "rate", .noat "Cycle" "start", .noat "Cycle" "period", .noat "Sky" "sky_rows", .noat "BadValue" "what", .noat "TooMany" "limit", .noat "NoName" "name", .meth "Cycle" "__eq__", .meth "Cycle" "__sub__", .meth "Cycle" "visits"]
def fa8 : List He.Fa := [.meth "Sky" "__iter__", .meth "Sky" "__eq__", .meth "Sky" "seen_from", .meth "BadValue" "__init__", .meth "TooMany" "__init__", .meth "NoName" "__init__", .exc "Endless", .exm "BadValue" "SkyError" true, .exm "TooMany" "SkyError" true, .exm "NoName" "SkyError" true, .exm "Endless" "SkyError" true]
def fa : List He.Fa := fa0 ++ fa1 ++ fa2 ++ fa3 ++ fa4 ++ fa5 ++ fa6 ++ fa7 ++ fa8
def fn0 : List He.DefD := [D_BadValue_init, D_TooMany_init, D_NoName_init, D_whole_number, D_common_divisor, D_lowest, D_precedes, D_weighted_divisor, D_joint_measure, D_is_fraction, D_check_pair, D_check_value, D_plus, D_minus, D_times, D_over]
def fn1 : List He.DefD := [D_compare, D_floor_of, D_part_of, D_check_values, D_measure_paper, D_Span_init, D_need_fraction, D_need_place, D_need_span, D_next_step, D_steps_within, D_Cycle_init, D_Cycle_eq, D_Cycle_sub, D_Cycle_visits, D_fits_name]
def fn2 : List He.DefD := [D_need_name, D_fits_rows, D_cycle_named, D_Sky_init, D_Sky_iter, D_Sky_eq, D_Sky_seen_from, D_need_cycles, D_weighed, D_never_weights, D_meeting_rule, D_meeting_paper, D_meetings, D__law_mixed, D__law_store, D__law_take]
def fn3 : List He.DefD := [D__law_pick, D__law_size, D__law_gcd, D__law_bezout, D__law_lowest, D__law_plus, D__law_minus, D__law_times, D__law_over, D__law_sign, D__law_floor, D__law_part, D__law_signs, D__law_whole, D__law_frac, D__law_place]
def fn4 : List He.DefD := [D__law_moment, D__law_span_row, D__law_many, D__law_span_over, D__law_met, D__law_rule, D__law_words, D__law_alike, D__law_answer, D__law_numbers_in, D__law_meetings_due, D__law_sky_for, D__law_seen, D__law_short_span, D__law_rows_right, D__law_search_right]
def fn5 : List He.DefD := [D__law_names_right, D_law]
def fn : List He.DefD := fn0 ++ fn1 ++ fn2 ++ fn3 ++ fn4 ++ fn5
/-! ### what else is asked of the written part -/
abbrev S_Sky_names : Stmt := inClass (top 56) 1
/-- the property's own object, its getter -/
def pNames (K : PySem.W.Frag) : Addr := He.ma K (ga K "Sky") "names"
def gNames (K : PySem.W.Frag) : Addr := He5.wf K (ga K "Sky") "property" "names"
def dNames : He5.DefA := ⟨gNames, "names", "Sky.names", defArgs S_Sky_names, defBody S_Sky_names, defScope S_Sky_names, [], []⟩
def oexB (K : PySem.W.Frag) (C : Addr) : Bool := match K.lookup C with
  | some ⟨.type t, _, .cls cd, sl⟩ => (match cd.mro, sl.toList with
    | .ref C' :: bm, [_, _, _, _, some (.builtin n), _] => decide (t = "type") && (decide (C' = C) && (decide (n = "ValueError.__new__") && (!cd.hasDel && (cd.hasDict && PySem.HandSPX.refsVE bm))))
    | _, _ => false)
  | _ => false
theorem oexB_ok {K : PySem.W.Frag} {C : Addr} (h : oexB K C = true) : ∃ nm q N bs bm sn sub ab col dd k0 k1 k2 k3 k5, K.lookup C = some (excClassObj nm q C N bs bm true sn sub ab col dd k0 k1 k2 k3 k5 "ValueError.__new__") ∧ PySem.HandSPX.refsVE bm = true := by
  unfold oexB at h
  split at h
  · rename_i t dd cd sl e
    obtain ⟨nm, bs, mro, ns, qn, hdct, sn, sub, ab, col, del⟩ := cd
    split at h
    · rename_i C' bm k0 k1 k2 k3 n k5 e1 e2
      obtain ⟨h1, h⟩ := He.ba h
      obtain ⟨h2, h⟩ := He.ba h
      obtain ⟨h3, h⟩ := He.ba h
      obtain ⟨h4, h⟩ := He.ba h
      obtain ⟨h5, h6⟩ := He.ba h
      have a1 := of_decide_eq_true h1
      have a2 := of_decide_eq_true h2
      have a3 := of_decide_eq_true h3
      dsimp only at e1 h4 h5
      subst a1 a2 a3 e1
      have hd : del = false := by
        cases del with
        | false => rfl
        | true => cases h4
      subst hd h5
      have es : sl = #[k0, k1, k2, k3, some (.builtin "ValueError.__new__"), k5] := by
        rw [← e2] <;> simp
      subst es
      exact ⟨nm, qn, ns, bs, bm, sn, sub, ab, col, dd, k0, k1, k2, k3, k5, e, h6⟩
    · cases h
  · cases h
/-- an own error class: what is asked -/
def errB (K : PySem.W.Frag) (C : Addr) : Bool := decide (PySem.W.findIn K (.ref C) "__getattribute__" = some (some (.builtin "BaseException.__getattribute__"))) && (decide (PySem.W.findIn K (.ref C) "__getattr__" = some none) && (decide (PySem.W.subIn K (.ref C) (.type "BaseException") = some true) &&
  (PySem.W.hasDictIn K C && (decide (PySem.W.findIn K (.ref C) "__class__" = some (some (.builtin "object.__class__"))) && (decide (PySem.W.mroIn K C (.type "object") = some true) && (decide (PySem.W.kitOne K (.ref C) (.type "ValueError") = some true)))))))
/-- .. with its own __init__ -/
def iniB (K : PySem.W.Frag) (C : Addr) : Bool := oexB K C && (decide (PySem.W.findIn K (.ref C) "__setattr__" = some (some (.builtin "object.__setattr__"))) && (decide (PySem.W.typeIn K (.ref C) = some (.type "type")) && PySem.W.keepIn K (.ref C)))
/-- an own class whose instances isinstance asks -/
def insB (K : PySem.W.Frag) (C : Addr) : Bool := decide (PySem.W.findIn K (.ref C) "__class__" = some (some (.builtin "object.__class__"))) && (decide (PySem.W.mroIn K C (.type "object") = some true))
def errs : List Str := ["Mismatch", "Still", "Taken", "Locked", "Looped", "Broken", "ReadError", "BadValue", "NoName", "TooMany", "Endless"]
def kitB1 (K : PySem.W.Frag) (x : Str) : Bool := errs.all fun y => decide (PySem.W.kitOne K (.ref (ga K x)) (.ref (ga K y)) = some (decide (x = y)))
def propB (K : PySem.W.Frag) : Bool := decide (PySem.W.findIn K (.ref (ga K "Sky")) "names" = some (some (.ref (pNames K)))) && (decide (PySem.W.specialIn K (.ref (pNames K)) "__get__" = some (some (.builtin "property.__get__"))) &&
  (decide (PySem.W.takesIn K (.ref (pNames K)) = some true) && (match PySem.W.recIn K (pNames K) "property" with
    | some (.ref g :: _) => decide (g = gNames K)
    | _ => false)))
/-- the tables of the defs that make lambdas are three -/
def tabOfD (K : PySem.W.Frag) (x : Str) : Addr := (He.cT K (x, none)).2
def tabD (K : PySem.W.Frag) : Bool := (!decide (tabOfD K "_law_search_right" = tabOfD K "_law_names_right")) && ((!decide (tabOfD K "_law_search_right" = tabOfD K "law")) && (!decide (tabOfD K "_law_names_right" = tabOfD K "law")))
def exB (K : PySem.W.Frag) : Bool := dNames.ok K && (propB K && (PySem.W.selfFirst K (ga K "Cycle") && (decide (PySem.W.specialIn K (.builtin "object.__class__") "__get__" = some (some (.builtin "getset_descriptor.__get__"))) && (decide (PySem.W.takesIn K (.builtin "object.__class__") = some true) &&
  ((["BadValue", "TooMany", "NoName", "Endless"] : List Str).all (fun x => errB K (ga K x) && kitB1 K x) && ((["BadValue", "TooMany", "NoName"] : List Str).all (fun x => iniB K (ga K x)) && ((["Span", "Cycle", "Sky"] : List Str).all (fun x => insB K (ga K x)) && tabD K)))))))
/-! ### the Hook -/
def tf : List He.Defn := [("_law_search_right", none), ("_law_names_right", none), ("law", none)]
/-- the objects that are looked at: the module's dict, the classes and their dicts, the defs and their code objects -/
def asW0 : List Addr := [3, 403, 402, 550, 549, 688, 687, 31, 30, 51, 50, 106, 105, 125, 124, 87]
def asW1 : List Addr := [86, 63, 62, 75, 74, 144, 143, 163, 162, 175, 174, 187, 186, 206, 205, 48]
def asW2 : List Addr := [47, 103, 102, 122, 121, 215, 214, 222, 221, 229, 228, 236, 235, 243, 242, 250]
def asW3 : List Addr := [249, 257, 256, 264, 263, 271, 270, 278, 277, 285, 284, 292, 291, 299, 298, 306]
def asW4 : List Addr := [305, 313, 312, 320, 319, 325, 324, 330, 329, 358, 357, 414, 413, 421, 420, 428]
def asW5 : List Addr := [427, 435, 434, 442, 441, 458, 457, 451, 477, 476, 491, 490, 547, 546, 559, 558]
def asW6 : List Addr := [566, 565, 573, 572, 580, 579, 594, 593, 607, 606, 619, 618, 657, 656, 697, 696]
def asW7 : List Addr := [704, 703, 709, 708, 716, 715, 721, 720, 728, 727, 735, 734, 742, 741, 749, 748]
def asW8 : List Addr := [756, 755, 763, 762, 770, 769, 775, 774, 782, 781, 789, 788, 796, 795, 803, 802]
def asW9 : List Addr := [810, 809, 817, 816, 824, 823, 831, 830, 838, 837, 845, 844, 852, 851, 859, 858]
def asW10 : List Addr := [866, 865, 873, 872, 880, 879, 887, 886, 894, 893, 901, 900, 906, 905, 913, 912]
def asW11 : List Addr := [920, 919, 927, 926, 932, 931, 937, 936, 942, 941, 949, 948, 954, 953, 959, 958]
def asW12 : List Addr := [964, 963, 969, 968, 600, 599, 598]
def asW : List Addr := asW0 ++ asW1 ++ asW2 ++ asW3 ++ asW4 ++ asW5 ++ asW6 ++ asW7 ++ asW8 ++ asW9 ++ asW10 ++ asW11 ++ asW12
abbrev KW (g : Addr → Option Obj) : PySem.W.Frag := He.frT g asW
abbrev AlW : Type := He.AlD × (Bool × He.FnW)
def obsW (g : Addr → Option Obj) : AlW := (He.obsD fa fn (KW g), (exB (KW g) && He.tabsB g tf (KW g), He5.fnA (KW g) (gNames (KW g))))
def valW : AlW := (He.valD fn, (true, dNames.val))
structure SaysW (h : Heap) (K : PySem.W.Frag) : Prop where
  d : He.SaysD fa fn K
  more : exB K = true
  hd : ∀ p ∈ tf, PySem.W.codeHdIn K (He.cT K p).1 (He.cT K p).2 = true
  out : ∀ p ∈ tf, K.lookup (He.cT K p).2 = none
  empty : ∀ p ∈ tf, h.get? (He.cT K p).2 = some { cls := .none, data := .fields #[] }
  nm : He5.fnA K (gNames K) = dNames.val
theorem saysW_of {h : Heap} (e : obsW h.get? = valW) : SaysW h (KW h.get?) := by
  have e1 : He.obsD fa fn (KW h.get?) = He.valD fn := congrArg (fun z : AlW => z.1) e
  have e2 : (exB (KW h.get?) && He.tabsB h.get? tf (KW h.get?)) = true := congrArg (fun z : AlW => z.2.1) e
  have e3 : He5.fnA (KW h.get?) (gNames (KW h.get?)) = dNames.val := congrArg (fun z : AlW => z.2.2) e
  obtain ⟨h1, h2⟩ := He.ba e2
  have key : ∀ p ∈ tf, PySem.W.codeHdIn (KW h.get?) (He.cT (KW h.get?) p).1 (He.cT (KW h.get?) p).2 = true ∧ ∃ o, h.get? (He.cT (KW h.get?) p).2 = some o ∧ He.emptyTab o = true := fun p hp => by
    obtain ⟨h3, h4⟩ := He.ba (List.all_eq_true.mp h2 p hp)
    refine ⟨h3, ?_⟩
    cases q : h.get? (He.cT (KW h.get?) p).2 with
    | none =>
      rw [q] at h4
      cases h4
    | some o =>
      rw [q] at h4
      exact ⟨o, rfl, h4⟩
  exact ⟨e1, h1, fun p hp => (key p hp).1, fun p hp => by
    obtain ⟨_, o, q, z⟩ := key p hp
    exact He.frT_none q z, fun p hp => by
    obtain ⟨_, o, q, z⟩ := key p hp
    rw [q, He.emptyTab_eq z], e3⟩
def hk : PySem.W.Hook where
  α := AlW
  obs := fun s => obsW s.heap.get?
  val := fun _ => valW
  says := fun _ h => ∃ K : PySem.W.Frag, K.In h ∧ SaysW h K
  of := fun _ _ e => ⟨_, He.frT_in, saysW_of e⟩
  keeps := fun _ _ _ ⟨K, hK, c⟩ k => ⟨K, PySem.W.Frag.In.keeps hK k, ⟨c.d, c.more, c.hd, c.out, fun p hp => k _ _ (c.empty p hp), c.nm⟩⟩
def obW (s : PySem.W.SharedT) : AlW := obsW (HandSHeadRun.getT s)
theorem obW_eq (s : PySem.W.SharedT) : obW s = hk.obs s.abs := by
  have e : HandSHeadRun.getT s = s.abs.heap.get? := funext fun a => HandSHeadRun.getT_eq s a
  show obsW _ = obsW _
  rw [e] <;> rfl
/-! ### what every proof may use -/
structure ErrC (K : PySem.W.Frag) (x : Str) : Prop where
  ga_ : PySem.W.findIn K (.ref (ga K x)) "__getattribute__" = some (some (.builtin "BaseException.__getattribute__"))
  gg : PySem.W.findIn K (.ref (ga K x)) "__getattr__" = some none
  ex : PySem.W.subIn K (.ref (ga K x)) (.type "BaseException") = some true
  hd : PySem.W.hasDictIn K (ga K x) = true
  cl : PySem.W.findIn K (.ref (ga K x)) "__class__" = some (some (.builtin "object.__class__"))
  hm : PySem.W.mroIn K (ga K x) (.type "object") = some true
  ve : PySem.W.kitOne K (.ref (ga K x)) (.type "ValueError") = some true
  kit : ∀ y ∈ errs, PySem.W.kitOne K (.ref (ga K x)) (.ref (ga K y)) = some (decide (x = y))
theorem errC_of {K : PySem.W.Frag} {x : Str} (h : (errB K (ga K x) && kitB1 K x) = true) : ErrC K x := by
  obtain ⟨h, hk⟩ := He.ba h
  obtain ⟨h1, h⟩ := He.ba h
  obtain ⟨h2, h⟩ := He.ba h
  obtain ⟨h3, h⟩ := He.ba h
  obtain ⟨h4, h⟩ := He.ba h
  obtain ⟨h5, h⟩ := He.ba h
  obtain ⟨h6, h7⟩ := He.ba h
  exact ⟨of_decide_eq_true h1, of_decide_eq_true h2, of_decide_eq_true h3, h4, of_decide_eq_true h5, of_decide_eq_true h6, of_decide_eq_true h7, fun y hy => of_decide_eq_true (List.all_eq_true.mp hk y hy)⟩
structure InsC (K : PySem.W.Frag) (x : Str) : Prop where
  cl : PySem.W.findIn K (.ref (ga K x)) "__class__" = some (some (.builtin "object.__class__"))
  hm : PySem.W.mroIn K (ga K x) (.type "object") = some true
theorem insC_of {K : PySem.W.Frag} {x : Str} (h : insB K (ga K x) = true) : InsC K x := by
  obtain ⟨h1, h2⟩ := He.ba h
  exact ⟨of_decide_eq_true h1, of_decide_eq_true h2⟩
theorem oexC_of {K : PySem.W.Frag} {x : Str} (e : ErrC K x) (h : iniB K (ga K x) = true) : OexC K (ga K x) := by
  obtain ⟨h1, h⟩ := He.ba h
  obtain ⟨h2, h⟩ := He.ba h
  obtain ⟨h3, h4⟩ := He.ba h
  exact ⟨oexB_ok h1, of_decide_eq_true h2, e.ex, of_decide_eq_true h3, h4⟩
structure Tx (K : PySem.W.Frag) (mg : Str → Option Value) : Prop where
  q_names : PropOf K (ga K "Sky") "names" (pNames K) (gNames K)
  f_Sky_names : ∃ fd, FunD K "names" "Sky.names" (defArgs S_Sky_names) (defBody S_Sky_names) (defScope S_Sky_names) [] [] (gNames K) fd
  selfCy : PySem.W.selfFirst K (ga K "Cycle") = true
  oc_get : PySem.W.specialIn K (.builtin "object.__class__") "__get__" = some (some (.builtin "getset_descriptor.__get__"))
  oc_tak : PySem.W.takesIn K (.builtin "object.__class__") = some true
  td : tabD K = true
  r_BadValue : ErrC K "BadValue"
  r_TooMany : ErrC K "TooMany"
  r_NoName : ErrC K "NoName"
  r_Endless : ErrC K "Endless"
  o_BadValue : OexC K (ga K "BadValue")
  o_TooMany : OexC K (ga K "TooMany")
  o_NoName : OexC K (ga K "NoName")
  j_Span : InsC K "Span"
  j_Cycle : InsC K "Cycle"
  j_Sky : InsC K "Sky"
  g_SkyError : mg "SkyError" = some (.ref (ga K "SkyError"))
  g_BadValue : mg "BadValue" = some (.ref (ga K "BadValue"))
  g_Mismatch : mg "Mismatch" = some (.ref (ga K "Mismatch"))
  g_Still : mg "Still" = some (.ref (ga K "Still"))
  g_Endless : mg "Endless" = some (.ref (ga K "Endless"))
  g_TooMany : mg "TooMany" = some (.ref (ga K "TooMany"))
  g_NoName : mg "NoName" = some (.ref (ga K "NoName"))
  g_Taken : mg "Taken" = some (.ref (ga K "Taken"))
  g_Locked : mg "Locked" = some (.ref (ga K "Locked"))
  g_Looped : mg "Looped" = some (.ref (ga K "Looped"))
  g_Broken : mg "Broken" = some (.ref (ga K "Broken"))
  g_ReadError : mg "ReadError" = some (.ref (ga K "ReadError"))
  g_whole_number : mg "whole_number" = some (.ref (ga K "whole_number"))
  g_common_divisor : mg "common_divisor" = some (.ref (ga K "common_divisor"))
  g_lowest : mg "lowest" = some (.ref (ga K "lowest"))
  g_precedes : mg "precedes" = some (.ref (ga K "precedes"))
  g_weighted_divisor : mg "weighted_divisor" = some (.ref (ga K "weighted_divisor"))
  g_joint_measure : mg "joint_measure" = some (.ref (ga K "joint_measure"))
  g_is_fraction : mg "is_fraction" = some (.ref (ga K "is_fraction"))
  g_check_pair : mg "check_pair" = some (.ref (ga K "check_pair"))
  g_check_value : mg "check_value" = some (.ref (ga K "check_value"))
  g_plus : mg "plus" = some (.ref (ga K "plus"))
  g_minus : mg "minus" = some (.ref (ga K "minus"))
  g_times : mg "times" = some (.ref (ga K "times"))
  g_over : mg "over" = some (.ref (ga K "over"))
  g_compare : mg "compare" = some (.ref (ga K "compare"))
  g_floor_of : mg "floor_of" = some (.ref (ga K "floor_of"))
  g_part_of : mg "part_of" = some (.ref (ga K "part_of"))
  g_check_values : mg "check_values" = some (.ref (ga K "check_values"))
  g_measure_paper : mg "measure_paper" = some (.ref (ga K "measure_paper"))
  g_Span : mg "Span" = some (.ref (ga K "Span"))
  g_need_fraction : mg "need_fraction" = some (.ref (ga K "need_fraction"))
  g_need_place : mg "need_place" = some (.ref (ga K "need_place"))
  g_need_span : mg "need_span" = some (.ref (ga K "need_span"))
  g_next_step : mg "next_step" = some (.ref (ga K "next_step"))
  g_steps_within : mg "steps_within" = some (.ref (ga K "steps_within"))
  g_Cycle : mg "Cycle" = some (.ref (ga K "Cycle"))
  g_fits_name : mg "fits_name" = some (.ref (ga K "fits_name"))
  g_need_name : mg "need_name" = some (.ref (ga K "need_name"))
  g_fits_rows : mg "fits_rows" = some (.ref (ga K "fits_rows"))
  g_cycle_named : mg "cycle_named" = some (.ref (ga K "cycle_named"))
  g_Sky : mg "Sky" = some (.ref (ga K "Sky"))
  g_need_cycles : mg "need_cycles" = some (.ref (ga K "need_cycles"))
  g_weighed : mg "weighed" = some (.ref (ga K "weighed"))
  g_never_weights : mg "never_weights" = some (.ref (ga K "never_weights"))
  g_meeting_rule : mg "meeting_rule" = some (.ref (ga K "meeting_rule"))
  g_meeting_paper : mg "meeting_paper" = some (.ref (ga K "meeting_paper"))
  g_meetings : mg "meetings" = some (.ref (ga K "meetings"))
  g__law_mixed : mg "_law_mixed" = some (.ref (ga K "_law_mixed"))
  g__law_store : mg "_law_store" = some (.ref (ga K "_law_store"))
  g__law_take : mg "_law_take" = some (.ref (ga K "_law_take"))
  g__law_pick : mg "_law_pick" = some (.ref (ga K "_law_pick"))
  g__law_size : mg "_law_size" = some (.ref (ga K "_law_size"))
  g__law_gcd : mg "_law_gcd" = some (.ref (ga K "_law_gcd"))
  g__law_bezout : mg "_law_bezout" = some (.ref (ga K "_law_bezout"))
  g__law_lowest : mg "_law_lowest" = some (.ref (ga K "_law_lowest"))
  g__law_plus : mg "_law_plus" = some (.ref (ga K "_law_plus"))
  g__law_minus : mg "_law_minus" = some (.ref (ga K "_law_minus"))
  g__law_times : mg "_law_times" = some (.ref (ga K "_law_times"))
  g__law_over : mg "_law_over" = some (.ref (ga K "_law_over"))
  g__law_sign : mg "_law_sign" = some (.ref (ga K "_law_sign"))
  g__law_floor : mg "_law_floor" = some (.ref (ga K "_law_floor"))
  g__law_part : mg "_law_part" = some (.ref (ga K "_law_part"))
  g__law_signs : mg "_law_signs" = some (.ref (ga K "_law_signs"))
  g__law_whole : mg "_law_whole" = some (.ref (ga K "_law_whole"))
  g__law_frac : mg "_law_frac" = some (.ref (ga K "_law_frac"))
  g__law_place : mg "_law_place" = some (.ref (ga K "_law_place"))
  g__law_moment : mg "_law_moment" = some (.ref (ga K "_law_moment"))
  g__law_span_row : mg "_law_span_row" = some (.ref (ga K "_law_span_row"))
  g__law_many : mg "_law_many" = some (.ref (ga K "_law_many"))
  g__law_span_over : mg "_law_span_over" = some (.ref (ga K "_law_span_over"))
  g__law_met : mg "_law_met" = some (.ref (ga K "_law_met"))
  g__law_rule : mg "_law_rule" = some (.ref (ga K "_law_rule"))
  g__law_words : mg "_law_words" = some (.ref (ga K "_law_words"))
  g__law_alike : mg "_law_alike" = some (.ref (ga K "_law_alike"))
  g__law_answer : mg "_law_answer" = some (.ref (ga K "_law_answer"))
  g__law_numbers_in : mg "_law_numbers_in" = some (.ref (ga K "_law_numbers_in"))
  g__law_meetings_due : mg "_law_meetings_due" = some (.ref (ga K "_law_meetings_due"))
  g__law_sky_for : mg "_law_sky_for" = some (.ref (ga K "_law_sky_for"))
  g__law_seen : mg "_law_seen" = some (.ref (ga K "_law_seen"))
  g__law_short_span : mg "_law_short_span" = some (.ref (ga K "_law_short_span"))
  g__law_rows_right : mg "_law_rows_right" = some (.ref (ga K "_law_rows_right"))
  g__law_search_right : mg "_law_search_right" = some (.ref (ga K "_law_search_right"))
  g__law_names_right : mg "_law_names_right" = some (.ref (ga K "_law_names_right"))
  g_law : mg "law" = some (.ref (ga K "law"))
  b_isinstance : mg "isinstance" = none
  b_int : mg "int" = none
  b_bool : mg "bool" = none
  b_abs : mg "abs" = none
  b_tuple : mg "tuple" = none
  b_len : mg "len" = none
  b_list : mg "list" = none
  b_all : mg "all" = none
  b_range : mg "range" = none
  b_zip : mg "zip" = none
  b_sum : mg "sum" = none
  b_enumerate : mg "enumerate" = none
  b_str : mg "str" = none
  b_iter : mg "iter" = none
  b_min : mg "min" = none
  b_ValueError : mg "ValueError" = none
  i_MOST_VALUES : ∃ t, mg "MOST_VALUES" = some (.int 12 t)
  i_MOST_MOMENTS : ∃ t, mg "MOST_MOMENTS" = some (.int 400 t)
  i_MOST_LETTERS : ∃ t, mg "MOST_LETTERS" = some (.int 12 t)
  i_MOST_CYCLES_skies : ∃ t, mg "MOST_CYCLES_skies" = some (.int 8 t)
  i_LEAST_CYCLES : ∃ t, mg "LEAST_CYCLES" = some (.int 2 t)
  i_MOST_CYCLES_meetings : ∃ t, mg "MOST_CYCLES_meetings" = some (.int 6 t)
  s_LETTERS : ∃ t, mg "LETTERS" = some (.str "abcdefghijklmnopqrstuvwxyz" t)
  s_DIGITS : ∃ t, mg "DIGITS" = some (.str "0123456789" t)
  c_Span : Cls K (ga K "Span")
  m_Span : Mk K (ga K "Span") (He.ma K (ga K "Span") "__init__")
  c_Cycle : Cls K (ga K "Cycle")
  m_Cycle : Mk K (ga K "Cycle") (He.ma K (ga K "Cycle") "__init__")
  c_Sky : Cls K (ga K "Sky")
  m_Sky : Mk K (ga K "Sky") (He.ma K (ga K "Sky") "__init__")
  n_Span_first : NoAttr K (ga K "Span") "first"
  n_Span_last : NoAttr K (ga K "Span") "last"
  n_Span_length : NoAttr K (ga K "Span") "length"
  n_Cycle_rate : NoAttr K (ga K "Cycle") "rate"
  n_Cycle_start : NoAttr K (ga K "Cycle") "start"
  n_Cycle_period : NoAttr K (ga K "Cycle") "period"
  n_Sky_sky_rows : NoAttr K (ga K "Sky") "sky_rows"
  n_BadValue_what : NoAttr K (ga K "BadValue") "what"
  n_TooMany_limit : NoAttr K (ga K "TooMany") "limit"
  n_NoName_name : NoAttr K (ga K "NoName") "name"
  t_Cycle_eq : Meth K (ga K "Cycle") "__eq__" (He.ma K (ga K "Cycle") "__eq__")
  t_Cycle_sub : Meth K (ga K "Cycle") "__sub__" (He.ma K (ga K "Cycle") "__sub__")
  t_Cycle_visits : Meth K (ga K "Cycle") "visits" (He.ma K (ga K "Cycle") "visits")
  t_Sky_iter : Meth K (ga K "Sky") "__iter__" (He.ma K (ga K "Sky") "__iter__")
  t_Sky_eq : Meth K (ga K "Sky") "__eq__" (He.ma K (ga K "Sky") "__eq__")
  t_Sky_seen_from : Meth K (ga K "Sky") "seen_from" (He.ma K (ga K "Sky") "seen_from")
  t_BadValue_init : Meth K (ga K "BadValue") "__init__" (He.ma K (ga K "BadValue") "__init__")
  t_TooMany_init : Meth K (ga K "TooMany") "__init__" (He.ma K (ga K "TooMany") "__init__")
  t_NoName_init : Meth K (ga K "NoName") "__init__" (He.ma K (ga K "NoName") "__init__")
  e_Endless : PySem.W.excIn K (ga K "Endless") He.veBase "ValueError.__new__" = true ∧ PySem.W.keepIn K (.ref (ga K "Endless")) = true ∧ PySem.W.subIn K (.ref (ga K "Endless")) (.type "BaseException") = some true ∧ PySem.W.typeIn K (.ref (ga K "Endless")) = some (.type "type")
  x_BadValue : PySem.W.exmOne K (.ref (ga K "BadValue")) (.ref (ga K "SkyError")) = some true
  x_TooMany : PySem.W.exmOne K (.ref (ga K "TooMany")) (.ref (ga K "SkyError")) = some true
  x_NoName : PySem.W.exmOne K (.ref (ga K "NoName")) (.ref (ga K "SkyError")) = some true
  x_Endless : PySem.W.exmOne K (.ref (ga K "Endless")) (.ref (ga K "SkyError")) = some true
  f_BadValue_init : ∃ fd, FnP K D_BadValue_init fd
  f_TooMany_init : ∃ fd, FnP K D_TooMany_init fd
  f_NoName_init : ∃ fd, FnP K D_NoName_init fd
  f_whole_number : ∃ fd, FnP K D_whole_number fd
  f_common_divisor : ∃ fd, FnP K D_common_divisor fd
  f_lowest : ∃ fd, FnP K D_lowest fd
  f_precedes : ∃ fd, FnP K D_precedes fd
  f_weighted_divisor : ∃ fd, FnP K D_weighted_divisor fd
  f_joint_measure : ∃ fd, FnP K D_joint_measure fd
  f_is_fraction : ∃ fd, FnP K D_is_fraction fd
  f_check_pair : ∃ fd, FnP K D_check_pair fd
  f_check_value : ∃ fd, FnP K D_check_value fd
  f_plus : ∃ fd, FnP K D_plus fd
  f_minus : ∃ fd, FnP K D_minus fd
  f_times : ∃ fd, FnP K D_times fd
  f_over : ∃ fd, FnP K D_over fd
  f_compare : ∃ fd, FnP K D_compare fd
  f_floor_of : ∃ fd, FnP K D_floor_of fd
  f_part_of : ∃ fd, FnP K D_part_of fd
  f_check_values : ∃ fd, FnP K D_check_values fd
  f_measure_paper : ∃ fd, FnP K D_measure_paper fd
  f_Span_init : ∃ fd, FnP K D_Span_init fd
  f_need_fraction : ∃ fd, FnP K D_need_fraction fd
  f_need_place : ∃ fd, FnP K D_need_place fd
  f_need_span : ∃ fd, FnP K D_need_span fd
  f_next_step : ∃ fd, FnP K D_next_step fd
  f_steps_within : ∃ fd, FnP K D_steps_within fd
  f_Cycle_init : ∃ fd, FnP K D_Cycle_init fd
  f_Cycle_eq : ∃ fd, FnP K D_Cycle_eq fd
  f_Cycle_sub : ∃ fd, FnP K D_Cycle_sub fd
  f_Cycle_visits : ∃ fd, FnP K D_Cycle_visits fd
  f_fits_name : ∃ fd, FnP K D_fits_name fd
  f_need_name : ∃ fd, FnP K D_need_name fd
  f_fits_rows : ∃ fd, FnP K D_fits_rows fd
  f_cycle_named : ∃ fd, FnP K D_cycle_named fd
  f_Sky_init : ∃ fd, FnP K D_Sky_init fd
  f_Sky_iter : ∃ fd, FnP K D_Sky_iter fd
  f_Sky_eq : ∃ fd, FnP K D_Sky_eq fd
  f_Sky_seen_from : ∃ fd, FnP K D_Sky_seen_from fd
  f_need_cycles : ∃ fd, FnP K D_need_cycles fd
  f_weighed : ∃ fd, FnP K D_weighed fd
  f_never_weights : ∃ fd, FnP K D_never_weights fd
  f_meeting_rule : ∃ fd, FnP K D_meeting_rule fd
  f_meeting_paper : ∃ fd, FnP K D_meeting_paper fd
  f_meetings : ∃ fd, FnP K D_meetings fd
  f__law_mixed : ∃ fd, FnP K D__law_mixed fd
  f__law_store : ∃ fd, FnP K D__law_store fd
  f__law_take : ∃ fd, FnP K D__law_take fd
  f__law_pick : ∃ fd, FnP K D__law_pick fd
  f__law_size : ∃ fd, FnP K D__law_size fd
  f__law_gcd : ∃ fd, FnP K D__law_gcd fd
  f__law_bezout : ∃ fd, FnP K D__law_bezout fd
  f__law_lowest : ∃ fd, FnP K D__law_lowest fd
  f__law_plus : ∃ fd, FnP K D__law_plus fd
  f__law_minus : ∃ fd, FnP K D__law_minus fd
  f__law_times : ∃ fd, FnP K D__law_times fd
  f__law_over : ∃ fd, FnP K D__law_over fd
  f__law_sign : ∃ fd, FnP K D__law_sign fd
  f__law_floor : ∃ fd, FnP K D__law_floor fd
  f__law_part : ∃ fd, FnP K D__law_part fd
  f__law_signs : ∃ fd, FnP K D__law_signs fd
  f__law_whole : ∃ fd, FnP K D__law_whole fd
  f__law_frac : ∃ fd, FnP K D__law_frac fd
  f__law_place : ∃ fd, FnP K D__law_place fd
  f__law_moment : ∃ fd, FnP K D__law_moment fd
  f__law_span_row : ∃ fd, FnP K D__law_span_row fd
  f__law_many : ∃ fd, FnP K D__law_many fd
  f__law_span_over : ∃ fd, FnP K D__law_span_over fd
  f__law_met : ∃ fd, FnP K D__law_met fd
  f__law_rule : ∃ fd, FnP K D__law_rule fd
  f__law_words : ∃ fd, FnP K D__law_words fd
  f__law_alike : ∃ fd, FnP K D__law_alike fd
  f__law_answer : ∃ fd, FnP K D__law_answer fd
  f__law_numbers_in : ∃ fd, FnP K D__law_numbers_in fd
  f__law_meetings_due : ∃ fd, FnP K D__law_meetings_due fd
  f__law_sky_for : ∃ fd, FnP K D__law_sky_for fd
  f__law_seen : ∃ fd, FnP K D__law_seen fd
  f__law_short_span : ∃ fd, FnP K D__law_short_span fd
  f__law_rows_right : ∃ fd, FnP K D__law_rows_right fd
  f__law_search_right : ∃ fd, FnP K D__law_search_right fd
  f__law_names_right : ∃ fd, FnP K D__law_names_right fd
  f_law : ∃ fd, FnP K D_law fd
theorem Tx.of {h : Heap} {K : PySem.W.Frag} {mg : Str → Option Value} (X : K.In h) (G : h.Ns mainGlobals mg) (S : SaysW h K) : Tx K mg := by
  obtain ⟨ct, cx, _, _, _, cn⟩ := S
  have c : ∀ {f : He.Fa}, f ∈ fa → f.ok K = true := fun hf => ct.facts hf
  have dd : ∀ {d : He.DefD}, d ∈ fn → ∃ fd, FnP K d fd := fun hd => ct.defs hd
  obtain ⟨x1, cx⟩ := He.ba cx
  obtain ⟨x2, cx⟩ := He.ba cx
  obtain ⟨x3, cx⟩ := He.ba cx
  obtain ⟨x4, cx⟩ := He.ba cx
  obtain ⟨x5, cx⟩ := He.ba cx
  obtain ⟨x6, cx⟩ := He.ba cx
  obtain ⟨x7, cx⟩ := He.ba cx
  obtain ⟨x8, x9⟩ := He.ba cx
  obtain ⟨y1, y⟩ := He.ba x2
  obtain ⟨y2, y⟩ := He.ba y
  obtain ⟨y3, y4⟩ := He.ba y
  have er : ∀ x, x ∈ (["BadValue", "TooMany", "NoName", "Endless"] : List Str) → ErrC K x := fun x hx => errC_of (List.all_eq_true.mp x6 x hx)
  have ox : ∀ x, x ∈ (["BadValue", "TooMany", "NoName"] : List Str) → ErrC K x → OexC K (ga K x) := fun x hx e => oexC_of e (List.all_eq_true.mp x7 x hx)
  have jn : ∀ x, x ∈ (["Span", "Cycle", "Sky"] : List Str) → InsC K x := fun x hx => insC_of (List.all_eq_true.mp x8 x hx)
  have rec_ : ∃ rest, PySem.W.recIn K (pNames K) "property" = some (.ref (gNames K) :: rest) := by
    split at y4
    · rename_i g rest e
      rw [← of_decide_eq_true y4]
      exact ⟨rest, e⟩
    · cases y4
  have e1 := er "BadValue" (by simp)
  have e2 := er "TooMany" (by simp)
  have e3 := er "NoName" (by simp)
  exact {
    q_names := ⟨of_decide_eq_true y1, of_decide_eq_true y2, of_decide_eq_true y3, rec_⟩, f_Sky_names := He5.DefA.funD cn x1, selfCy := x3, oc_get := of_decide_eq_true x4, oc_tak := of_decide_eq_true x5, td := x9,
    r_BadValue := e1, r_TooMany := e2, r_NoName := e3, r_Endless := er "Endless" (by simp),
    o_BadValue := ox "BadValue" (by simp) e1, o_TooMany := ox "TooMany" (by simp) e2, o_NoName := ox "NoName" (by simp) e3,
    j_Span := jn "Span" (by simp), j_Cycle := jn "Cycle" (by simp), j_Sky := jn "Sky" (by simp),
    g_SkyError := He.glo_ok X G (c (f := .glo "SkyError") (List.mem_of_getElem? (i := 0) rfl)),
    g_BadValue := He.glo_ok X G (c (f := .glo "BadValue") (List.mem_of_getElem? (i := 1) rfl)),
    g_Mismatch := He.glo_ok X G (c (f := .glo "Mismatch") (List.mem_of_getElem? (i := 2) rfl)),
    g_Still := He.glo_ok X G (c (f := .glo "Still") (List.mem_of_getElem? (i := 3) rfl)),
    g_Endless := He.glo_ok X G (c (f := .glo "Endless") (List.mem_of_getElem? (i := 4) rfl)),
    g_TooMany := He.glo_ok X G (c (f := .glo "TooMany") (List.mem_of_getElem? (i := 5) rfl)),
    g_NoName := He.glo_ok X G (c (f := .glo "NoName") (List.mem_of_getElem? (i := 6) rfl)),
    g_Taken := He.glo_ok X G (c (f := .glo "Taken") (List.mem_of_getElem? (i := 7) rfl)),
    g_Locked := He.glo_ok X G (c (f := .glo "Locked") (List.mem_of_getElem? (i := 8) rfl)),
    g_Looped := He.glo_ok X G (c (f := .glo "Looped") (List.mem_of_getElem? (i := 9) rfl)),
    g_Broken := He.glo_ok X G (c (f := .glo "Broken") (List.mem_of_getElem? (i := 10) rfl)),
    g_ReadError := He.glo_ok X G (c (f := .glo "ReadError") (List.mem_of_getElem? (i := 11) rfl)),
    g_whole_number := He.glo_ok X G (c (f := .glo "whole_number") (List.mem_of_getElem? (i := 12) rfl)),
    g_common_divisor := He.glo_ok X G (c (f := .glo "common_divisor") (List.mem_of_getElem? (i := 13) rfl)),
    g_lowest := He.glo_ok X G (c (f := .glo "lowest") (List.mem_of_getElem? (i := 14) rfl)),
    g_precedes := He.glo_ok X G (c (f := .glo "precedes") (List.mem_of_getElem? (i := 15) rfl)),
    g_weighted_divisor := He.glo_ok X G (c (f := .glo "weighted_divisor") (List.mem_of_getElem? (i := 16) rfl)),
    g_joint_measure := He.glo_ok X G (c (f := .glo "joint_measure") (List.mem_of_getElem? (i := 17) rfl)),
    g_is_fraction := He.glo_ok X G (c (f := .glo "is_fraction") (List.mem_of_getElem? (i := 18) rfl)),
    g_check_pair := He.glo_ok X G (c (f := .glo "check_pair") (List.mem_of_getElem? (i := 19) rfl)),
    g_check_value := He.glo_ok X G (c (f := .glo "check_value") (List.mem_of_getElem? (i := 20) rfl)),
    g_plus := He.glo_ok X G (c (f := .glo "plus") (List.mem_of_getElem? (i := 21) rfl)),
    g_minus := He.glo_ok X G (c (f := .glo "minus") (List.mem_of_getElem? (i := 22) rfl)),
    g_times := He.glo_ok X G (c (f := .glo "times") (List.mem_of_getElem? (i := 23) rfl)),
    g_over := He.glo_ok X G (c (f := .glo "over") (List.mem_of_getElem? (i := 24) rfl)),
    g_compare := He.glo_ok X G (c (f := .glo "compare") (List.mem_of_getElem? (i := 25) rfl)),
    g_floor_of := He.glo_ok X G (c (f := .glo "floor_of") (List.mem_of_getElem? (i := 26) rfl)),
    g_part_of := He.glo_ok X G (c (f := .glo "part_of") (List.mem_of_getElem? (i := 27) rfl)),
    g_check_values := He.glo_ok X G (c (f := .glo "check_values") (List.mem_of_getElem? (i := 28) rfl)),
    g_measure_paper := He.glo_ok X G (c (f := .glo "measure_paper") (List.mem_of_getElem? (i := 29) rfl)),
    g_Span := He.glo_ok X G (c (f := .glo "Span") (List.mem_of_getElem? (i := 30) rfl)),
    g_need_fraction := He.glo_ok X G (c (f := .glo "need_fraction") (List.mem_of_getElem? (i := 31) rfl)),
    g_need_place := He.glo_ok X G (c (f := .glo "need_place") (List.mem_of_getElem? (i := 32) rfl)),
    g_need_span := He.glo_ok X G (c (f := .glo "need_span") (List.mem_of_getElem? (i := 33) rfl)),
    g_next_step := He.glo_ok X G (c (f := .glo "next_step") (List.mem_of_getElem? (i := 34) rfl)),
    g_steps_within := He.glo_ok X G (c (f := .glo "steps_within") (List.mem_of_getElem? (i := 35) rfl)),
    g_Cycle := He.glo_ok X G (c (f := .glo "Cycle") (List.mem_of_getElem? (i := 36) rfl)),
    g_fits_name := He.glo_ok X G (c (f := .glo "fits_name") (List.mem_of_getElem? (i := 37) rfl)),
    g_need_name := He.glo_ok X G (c (f := .glo "need_name") (List.mem_of_getElem? (i := 38) rfl)),
    g_fits_rows := He.glo_ok X G (c (f := .glo "fits_rows") (List.mem_of_getElem? (i := 39) rfl)),
    g_cycle_named := He.glo_ok X G (c (f := .glo "cycle_named") (List.mem_of_getElem? (i := 40) rfl)),
    g_Sky := He.glo_ok X G (c (f := .glo "Sky") (List.mem_of_getElem? (i := 41) rfl)),
    g_need_cycles := He.glo_ok X G (c (f := .glo "need_cycles") (List.mem_of_getElem? (i := 42) rfl)),
    g_weighed := He.glo_ok X G (c (f := .glo "weighed") (List.mem_of_getElem? (i := 43) rfl)),
    g_never_weights := He.glo_ok X G (c (f := .glo "never_weights") (List.mem_of_getElem? (i := 44) rfl)),
    g_meeting_rule := He.glo_ok X G (c (f := .glo "meeting_rule") (List.mem_of_getElem? (i := 45) rfl)),
    g_meeting_paper := He.glo_ok X G (c (f := .glo "meeting_paper") (List.mem_of_getElem? (i := 46) rfl)),
    g_meetings := He.glo_ok X G (c (f := .glo "meetings") (List.mem_of_getElem? (i := 47) rfl)),
    g__law_mixed := He.glo_ok X G (c (f := .glo "_law_mixed") (List.mem_of_getElem? (i := 48) rfl)),
    g__law_store := He.glo_ok X G (c (f := .glo "_law_store") (List.mem_of_getElem? (i := 49) rfl)),
    g__law_take := He.glo_ok X G (c (f := .glo "_law_take") (List.mem_of_getElem? (i := 50) rfl)),
    g__law_pick := He.glo_ok X G (c (f := .glo "_law_pick") (List.mem_of_getElem? (i := 51) rfl)),
    g__law_size := He.glo_ok X G (c (f := .glo "_law_size") (List.mem_of_getElem? (i := 52) rfl)),
    g__law_gcd := He.glo_ok X G (c (f := .glo "_law_gcd") (List.mem_of_getElem? (i := 53) rfl)),
    g__law_bezout := He.glo_ok X G (c (f := .glo "_law_bezout") (List.mem_of_getElem? (i := 54) rfl)),
    g__law_lowest := He.glo_ok X G (c (f := .glo "_law_lowest") (List.mem_of_getElem? (i := 55) rfl)),
    g__law_plus := He.glo_ok X G (c (f := .glo "_law_plus") (List.mem_of_getElem? (i := 56) rfl)),
    g__law_minus := He.glo_ok X G (c (f := .glo "_law_minus") (List.mem_of_getElem? (i := 57) rfl)),
    g__law_times := He.glo_ok X G (c (f := .glo "_law_times") (List.mem_of_getElem? (i := 58) rfl)),
    g__law_over := He.glo_ok X G (c (f := .glo "_law_over") (List.mem_of_getElem? (i := 59) rfl)),
    g__law_sign := He.glo_ok X G (c (f := .glo "_law_sign") (List.mem_of_getElem? (i := 60) rfl)),
    g__law_floor := He.glo_ok X G (c (f := .glo "_law_floor") (List.mem_of_getElem? (i := 61) rfl)),
    g__law_part := He.glo_ok X G (c (f := .glo "_law_part") (List.mem_of_getElem? (i := 62) rfl)),
    g__law_signs := He.glo_ok X G (c (f := .glo "_law_signs") (List.mem_of_getElem? (i := 63) rfl)),
    g__law_whole := He.glo_ok X G (c (f := .glo "_law_whole") (List.mem_of_getElem? (i := 64) rfl)),
    g__law_frac := He.glo_ok X G (c (f := .glo "_law_frac") (List.mem_of_getElem? (i := 65) rfl)),
    g__law_place := He.glo_ok X G (c (f := .glo "_law_place") (List.mem_of_getElem? (i := 66) rfl)),
    g__law_moment := He.glo_ok X G (c (f := .glo "_law_moment") (List.mem_of_getElem? (i := 67) rfl)),
    g__law_span_row := He.glo_ok X G (c (f := .glo "_law_span_row") (List.mem_of_getElem? (i := 68) rfl)),
    g__law_many := He.glo_ok X G (c (f := .glo "_law_many") (List.mem_of_getElem? (i := 69) rfl)),
    g__law_span_over := He.glo_ok X G (c (f := .glo "_law_span_over") (List.mem_of_getElem? (i := 70) rfl)),
    g__law_met := He.glo_ok X G (c (f := .glo "_law_met") (List.mem_of_getElem? (i := 71) rfl)),
    g__law_rule := He.glo_ok X G (c (f := .glo "_law_rule") (List.mem_of_getElem? (i := 72) rfl)),
    g__law_words := He.glo_ok X G (c (f := .glo "_law_words") (List.mem_of_getElem? (i := 73) rfl)),
    g__law_alike := He.glo_ok X G (c (f := .glo "_law_alike") (List.mem_of_getElem? (i := 74) rfl)),
    g__law_answer := He.glo_ok X G (c (f := .glo "_law_answer") (List.mem_of_getElem? (i := 75) rfl)),
    g__law_numbers_in := He.glo_ok X G (c (f := .glo "_law_numbers_in") (List.mem_of_getElem? (i := 76) rfl)),
    g__law_meetings_due := He.glo_ok X G (c (f := .glo "_law_meetings_due") (List.mem_of_getElem? (i := 77) rfl)),
    g__law_sky_for := He.glo_ok X G (c (f := .glo "_law_sky_for") (List.mem_of_getElem? (i := 78) rfl)),
    g__law_seen := He.glo_ok X G (c (f := .glo "_law_seen") (List.mem_of_getElem? (i := 79) rfl)),
    g__law_short_span := He.glo_ok X G (c (f := .glo "_law_short_span") (List.mem_of_getElem? (i := 80) rfl)),
    g__law_rows_right := He.glo_ok X G (c (f := .glo "_law_rows_right") (List.mem_of_getElem? (i := 81) rfl)),
    g__law_search_right := He.glo_ok X G (c (f := .glo "_law_search_right") (List.mem_of_getElem? (i := 82) rfl)),
    g__law_names_right := He.glo_ok X G (c (f := .glo "_law_names_right") (List.mem_of_getElem? (i := 83) rfl)),
    g_law := He.glo_ok X G (c (f := .glo "law") (List.mem_of_getElem? (i := 84) rfl)),
    b_isinstance := He.free_ok X G (c (f := .free "isinstance") (List.mem_of_getElem? (i := 85) rfl)),
    b_int := He.free_ok X G (c (f := .free "int") (List.mem_of_getElem? (i := 86) rfl)),
    b_bool := He.free_ok X G (c (f := .free "bool") (List.mem_of_getElem? (i := 87) rfl)),
    b_abs := He.free_ok X G (c (f := .free "abs") (List.mem_of_getElem? (i := 88) rfl)),
    b_tuple := He.free_ok X G (c (f := .free "tuple") (List.mem_of_getElem? (i := 89) rfl)),
    b_len := He.free_ok X G (c (f := .free "len") (List.mem_of_getElem? (i := 90) rfl)),
    b_list := He.free_ok X G (c (f := .free "list") (List.mem_of_getElem? (i := 91) rfl)),
    b_all := He.free_ok X G (c (f := .free "all") (List.mem_of_getElem? (i := 92) rfl)),
    b_range := He.free_ok X G (c (f := .free "range") (List.mem_of_getElem? (i := 93) rfl)),
    b_zip := He.free_ok X G (c (f := .free "zip") (List.mem_of_getElem? (i := 94) rfl)),
    b_sum := He.free_ok X G (c (f := .free "sum") (List.mem_of_getElem? (i := 95) rfl)),
    b_enumerate := He.free_ok X G (c (f := .free "enumerate") (List.mem_of_getElem? (i := 96) rfl)),
    b_str := He.free_ok X G (c (f := .free "str") (List.mem_of_getElem? (i := 97) rfl)),
    b_iter := He.free_ok X G (c (f := .free "iter") (List.mem_of_getElem? (i := 98) rfl)),
    b_min := He.free_ok X G (c (f := .free "min") (List.mem_of_getElem? (i := 99) rfl)),
    b_ValueError := He.free_ok X G (c (f := .free "ValueError") (List.mem_of_getElem? (i := 100) rfl)),
    i_MOST_VALUES := He.int_ok X G (c (f := .int "MOST_VALUES" 12) (List.mem_of_getElem? (i := 101) rfl)),
    i_MOST_MOMENTS := He.int_ok X G (c (f := .int "MOST_MOMENTS" 400) (List.mem_of_getElem? (i := 102) rfl)),
    i_MOST_LETTERS := He.int_ok X G (c (f := .int "MOST_LETTERS" 12) (List.mem_of_getElem? (i := 103) rfl)),
    i_MOST_CYCLES_skies := He.int_ok X G (c (f := .int "MOST_CYCLES_skies" 8) (List.mem_of_getElem? (i := 104) rfl)),
    i_LEAST_CYCLES := He.int_ok X G (c (f := .int "LEAST_CYCLES" 2) (List.mem_of_getElem? (i := 105) rfl)),
    i_MOST_CYCLES_meetings := He.int_ok X G (c (f := .int "MOST_CYCLES_meetings" 6) (List.mem_of_getElem? (i := 106) rfl)),
    s_LETTERS := He.str_ok X G (c (f := .str "LETTERS" "abcdefghijklmnopqrstuvwxyz") (List.mem_of_getElem? (i := 107) rfl)),
    s_DIGITS := He.str_ok X G (c (f := .str "DIGITS" "0123456789") (List.mem_of_getElem? (i := 108) rfl)),
    c_Span := He.cls_ok (c (f := .cls "Span") (List.mem_of_getElem? (i := 109) rfl)),
    m_Span := He.mkr_ok (c (f := .mkr "Span") (List.mem_of_getElem? (i := 110) rfl)),
    c_Cycle := He.cls_ok (c (f := .cls "Cycle") (List.mem_of_getElem? (i := 111) rfl)),
    m_Cycle := He.mkr_ok (c (f := .mkr "Cycle") (List.mem_of_getElem? (i := 112) rfl)),
    c_Sky := He.cls_ok (c (f := .cls "Sky") (List.mem_of_getElem? (i := 113) rfl)),
    m_Sky := He.mkr_ok (c (f := .mkr "Sky") (List.mem_of_getElem? (i := 114) rfl)),
    n_Span_first := He.noat_ok (c (f := .noat "Span" "first") (List.mem_of_getElem? (i := 115) rfl)),
    n_Span_last := He.noat_ok (c (f := .noat "Span" "last") (List.mem_of_getElem? (i := 116) rfl)),
    n_Span_length := He.noat_ok (c (f := .noat "Span" "length") (List.mem_of_getElem? (i := 117) rfl)),
    n_Cycle_rate := He.noat_ok (c (f := .noat "Cycle" "rate") (List.mem_of_getElem? (i := 118) rfl)),
    n_Cycle_start := He.noat_ok (c (f := .noat "Cycle" "start") (List.mem_of_getElem? (i := 119) rfl)),
    n_Cycle_period := He.noat_ok (c (f := .noat "Cycle" "period") (List.mem_of_getElem? (i := 120) rfl)),
    n_Sky_sky_rows := He.noat_ok (c (f := .noat "Sky" "sky_rows") (List.mem_of_getElem? (i := 121) rfl)),
    n_BadValue_what := He.noat_ok (c (f := .noat "BadValue" "what") (List.mem_of_getElem? (i := 122) rfl)),
    n_TooMany_limit := He.noat_ok (c (f := .noat "TooMany" "limit") (List.mem_of_getElem? (i := 123) rfl)),
    n_NoName_name := He.noat_ok (c (f := .noat "NoName" "name") (List.mem_of_getElem? (i := 124) rfl)),
    t_Cycle_eq := He.meth_ok (c (f := .meth "Cycle" "__eq__") (List.mem_of_getElem? (i := 125) rfl)),
    t_Cycle_sub := He.meth_ok (c (f := .meth "Cycle" "__sub__") (List.mem_of_getElem? (i := 126) rfl)),
    t_Cycle_visits := He.meth_ok (c (f := .meth "Cycle" "visits") (List.mem_of_getElem? (i := 127) rfl)),
    t_Sky_iter := He.meth_ok (c (f := .meth "Sky" "__iter__") (List.mem_of_getElem? (i := 128) rfl)),
    t_Sky_eq := He.meth_ok (c (f := .meth "Sky" "__eq__") (List.mem_of_getElem? (i := 129) rfl)),
    t_Sky_seen_from := He.meth_ok (c (f := .meth "Sky" "seen_from") (List.mem_of_getElem? (i := 130) rfl)),
    t_BadValue_init := He.meth_ok (c (f := .meth "BadValue" "__init__") (List.mem_of_getElem? (i := 131) rfl)),
    t_TooMany_init := He.meth_ok (c (f := .meth "TooMany" "__init__") (List.mem_of_getElem? (i := 132) rfl)),
    t_NoName_init := He.meth_ok (c (f := .meth "NoName" "__init__") (List.mem_of_getElem? (i := 133) rfl)),
    e_Endless := He.exc_ok (c (f := .exc "Endless") (List.mem_of_getElem? (i := 134) rfl)),
    x_BadValue := He.exm_ok (c (f := .exm "BadValue" "SkyError" true) (List.mem_of_getElem? (i := 135) rfl)),
    x_TooMany := He.exm_ok (c (f := .exm "TooMany" "SkyError" true) (List.mem_of_getElem? (i := 136) rfl)),
    x_NoName := He.exm_ok (c (f := .exm "NoName" "SkyError" true) (List.mem_of_getElem? (i := 137) rfl)),
    x_Endless := He.exm_ok (c (f := .exm "Endless" "SkyError" true) (List.mem_of_getElem? (i := 138) rfl)),
    f_BadValue_init := dd (d := D_BadValue_init) (List.mem_of_getElem? (i := 0) rfl),
    f_TooMany_init := dd (d := D_TooMany_init) (List.mem_of_getElem? (i := 1) rfl),
    f_NoName_init := dd (d := D_NoName_init) (List.mem_of_getElem? (i := 2) rfl),
    f_whole_number := dd (d := D_whole_number) (List.mem_of_getElem? (i := 3) rfl),
    f_common_divisor := dd (d := D_common_divisor) (List.mem_of_getElem? (i := 4) rfl),
    f_lowest := dd (d := D_lowest) (List.mem_of_getElem? (i := 5) rfl),
    f_precedes := dd (d := D_precedes) (List.mem_of_getElem? (i := 6) rfl),
    f_weighted_divisor := dd (d := D_weighted_divisor) (List.mem_of_getElem? (i := 7) rfl),
    f_joint_measure := dd (d := D_joint_measure) (List.mem_of_getElem? (i := 8) rfl),
    f_is_fraction := dd (d := D_is_fraction) (List.mem_of_getElem? (i := 9) rfl),
    f_check_pair := dd (d := D_check_pair) (List.mem_of_getElem? (i := 10) rfl),
    f_check_value := dd (d := D_check_value) (List.mem_of_getElem? (i := 11) rfl),
    f_plus := dd (d := D_plus) (List.mem_of_getElem? (i := 12) rfl),
    f_minus := dd (d := D_minus) (List.mem_of_getElem? (i := 13) rfl),
    f_times := dd (d := D_times) (List.mem_of_getElem? (i := 14) rfl),
    f_over := dd (d := D_over) (List.mem_of_getElem? (i := 15) rfl),
    f_compare := dd (d := D_compare) (List.mem_of_getElem? (i := 16) rfl),
    f_floor_of := dd (d := D_floor_of) (List.mem_of_getElem? (i := 17) rfl),
    f_part_of := dd (d := D_part_of) (List.mem_of_getElem? (i := 18) rfl),
    f_check_values := dd (d := D_check_values) (List.mem_of_getElem? (i := 19) rfl),
    f_measure_paper := dd (d := D_measure_paper) (List.mem_of_getElem? (i := 20) rfl),
    f_Span_init := dd (d := D_Span_init) (List.mem_of_getElem? (i := 21) rfl),
    f_need_fraction := dd (d := D_need_fraction) (List.mem_of_getElem? (i := 22) rfl),
    f_need_place := dd (d := D_need_place) (List.mem_of_getElem? (i := 23) rfl),
    f_need_span := dd (d := D_need_span) (List.mem_of_getElem? (i := 24) rfl),
    f_next_step := dd (d := D_next_step) (List.mem_of_getElem? (i := 25) rfl),
    f_steps_within := dd (d := D_steps_within) (List.mem_of_getElem? (i := 26) rfl),
    f_Cycle_init := dd (d := D_Cycle_init) (List.mem_of_getElem? (i := 27) rfl),
    f_Cycle_eq := dd (d := D_Cycle_eq) (List.mem_of_getElem? (i := 28) rfl),
    f_Cycle_sub := dd (d := D_Cycle_sub) (List.mem_of_getElem? (i := 29) rfl),
    f_Cycle_visits := dd (d := D_Cycle_visits) (List.mem_of_getElem? (i := 30) rfl),
    f_fits_name := dd (d := D_fits_name) (List.mem_of_getElem? (i := 31) rfl),
    f_need_name := dd (d := D_need_name) (List.mem_of_getElem? (i := 32) rfl),
    f_fits_rows := dd (d := D_fits_rows) (List.mem_of_getElem? (i := 33) rfl),
    f_cycle_named := dd (d := D_cycle_named) (List.mem_of_getElem? (i := 34) rfl),
    f_Sky_init := dd (d := D_Sky_init) (List.mem_of_getElem? (i := 35) rfl),
    f_Sky_iter := dd (d := D_Sky_iter) (List.mem_of_getElem? (i := 36) rfl),
    f_Sky_eq := dd (d := D_Sky_eq) (List.mem_of_getElem? (i := 37) rfl),
    f_Sky_seen_from := dd (d := D_Sky_seen_from) (List.mem_of_getElem? (i := 38) rfl),
    f_need_cycles := dd (d := D_need_cycles) (List.mem_of_getElem? (i := 39) rfl),
    f_weighed := dd (d := D_weighed) (List.mem_of_getElem? (i := 40) rfl),
    f_never_weights := dd (d := D_never_weights) (List.mem_of_getElem? (i := 41) rfl),
    f_meeting_rule := dd (d := D_meeting_rule) (List.mem_of_getElem? (i := 42) rfl),
    f_meeting_paper := dd (d := D_meeting_paper) (List.mem_of_getElem? (i := 43) rfl),
    f_meetings := dd (d := D_meetings) (List.mem_of_getElem? (i := 44) rfl),
    f__law_mixed := dd (d := D__law_mixed) (List.mem_of_getElem? (i := 45) rfl),
    f__law_store := dd (d := D__law_store) (List.mem_of_getElem? (i := 46) rfl),
    f__law_take := dd (d := D__law_take) (List.mem_of_getElem? (i := 47) rfl),
    f__law_pick := dd (d := D__law_pick) (List.mem_of_getElem? (i := 48) rfl),
    f__law_size := dd (d := D__law_size) (List.mem_of_getElem? (i := 49) rfl),
    f__law_gcd := dd (d := D__law_gcd) (List.mem_of_getElem? (i := 50) rfl),
    f__law_bezout := dd (d := D__law_bezout) (List.mem_of_getElem? (i := 51) rfl),
    f__law_lowest := dd (d := D__law_lowest) (List.mem_of_getElem? (i := 52) rfl),
    f__law_plus := dd (d := D__law_plus) (List.mem_of_getElem? (i := 53) rfl),
    f__law_minus := dd (d := D__law_minus) (List.mem_of_getElem? (i := 54) rfl),
    f__law_times := dd (d := D__law_times) (List.mem_of_getElem? (i := 55) rfl),
    f__law_over := dd (d := D__law_over) (List.mem_of_getElem? (i := 56) rfl),
    f__law_sign := dd (d := D__law_sign) (List.mem_of_getElem? (i := 57) rfl),
    f__law_floor := dd (d := D__law_floor) (List.mem_of_getElem? (i := 58) rfl),
    f__law_part := dd (d := D__law_part) (List.mem_of_getElem? (i := 59) rfl),
    f__law_signs := dd (d := D__law_signs) (List.mem_of_getElem? (i := 60) rfl),
    f__law_whole := dd (d := D__law_whole) (List.mem_of_getElem? (i := 61) rfl),
    f__law_frac := dd (d := D__law_frac) (List.mem_of_getElem? (i := 62) rfl),
    f__law_place := dd (d := D__law_place) (List.mem_of_getElem? (i := 63) rfl),
    f__law_moment := dd (d := D__law_moment) (List.mem_of_getElem? (i := 64) rfl),
    f__law_span_row := dd (d := D__law_span_row) (List.mem_of_getElem? (i := 65) rfl),
    f__law_many := dd (d := D__law_many) (List.mem_of_getElem? (i := 66) rfl),
    f__law_span_over := dd (d := D__law_span_over) (List.mem_of_getElem? (i := 67) rfl),
    f__law_met := dd (d := D__law_met) (List.mem_of_getElem? (i := 68) rfl),
    f__law_rule := dd (d := D__law_rule) (List.mem_of_getElem? (i := 69) rfl),
    f__law_words := dd (d := D__law_words) (List.mem_of_getElem? (i := 70) rfl),
    f__law_alike := dd (d := D__law_alike) (List.mem_of_getElem? (i := 71) rfl),
    f__law_answer := dd (d := D__law_answer) (List.mem_of_getElem? (i := 72) rfl),
    f__law_numbers_in := dd (d := D__law_numbers_in) (List.mem_of_getElem? (i := 73) rfl),
    f__law_meetings_due := dd (d := D__law_meetings_due) (List.mem_of_getElem? (i := 74) rfl),
    f__law_sky_for := dd (d := D__law_sky_for) (List.mem_of_getElem? (i := 75) rfl),
    f__law_seen := dd (d := D__law_seen) (List.mem_of_getElem? (i := 76) rfl),
    f__law_short_span := dd (d := D__law_short_span) (List.mem_of_getElem? (i := 77) rfl),
    f__law_rows_right := dd (d := D__law_rows_right) (List.mem_of_getElem? (i := 78) rfl),
    f__law_search_right := dd (d := D__law_search_right) (List.mem_of_getElem? (i := 79) rfl),
    f__law_names_right := dd (d := D__law_names_right) (List.mem_of_getElem? (i := 80) rfl),
    f_law := dd (d := D_law) (List.mem_of_getElem? (i := 81) rfl) }
end Wk
set_option maxHeartbeats 4000000
namespace Wk
open PySem PySem.Spec PyProof.Rows L2
/-! ### rules of our own -/
/-- // by any great int but 0 -/
def CDivZ (_ j : Int) : Prop := j ≠ 0 ∧ j.natAbs.log2 < 9000
section
variable {X : Cx}
theorem op_fdivZ : OpR X (binaryOp .FloorDiv) (rI CDivZ fun i j => .int (i.fdiv j)) := opI fun i j _ _ _ _ _ hc q =>
  floordiv_int hc.1 q (.inl (PyProof.noPylong_of_log2 hc.2))
/-- X(), X an own exception class without own __init__ -/
theorem pmk_own0 {C : Addr} {bmB : List Value} {B newId initId : String} {x : Str} {p pos : Pos} (F : ExcBaseFacts B newId initId bmB) (q : PySem.W.excIn X.K C bmB newId = true) (gC : X.mg x = some (.ref C))
    (kC : PySem.W.keepIn X.K (.ref C) = true) (r : Raises X (.ref C)) (hg : Gl X x) (hdb : (x == ("__debug__" : Str)) = false := by decide) :
    PMk X (.Call (.Name x p) [] [] pos) (fun _ H Q => Q (.ref C) none H) := by
  intro pins s σ H Q I h
  refine wpAny_Call_Name_kw (ld_glob I hg gC ?_ hdb)
  refine PySem.W.callWith_K0 I.kIn kC ?_
  show wpAny _ _ (call (.ref C) []) _ _ _
  obtain ⟨bm, N, nm, qn, bs, hdct, sn, sub, ab, col, dd, k0, k1, k2, k3, k5, mN, hC, hN, hni, T⟩ := exc_obj I.kIn q
  refine wpAny_call_exc_subT F T hC hN hni (fun h' e hm => ?_) (Nat.zero_le _)
  exact mk_of I hm r h (I.hok.gone hm.new)
/-- a op b of two instances of one class by the text's own method -/
def rOwnOp (C : Addr) (sp : Sp) (E : XK) : R2 := fun x y H Q => ∃ a b dx dy fs gs, x = .ref a ∧ y = .ref b ∧ H a = some (.ins C dx fs) ∧ H b = some (.ins C dy gs) ∧
  sp [.ref a, .ref b] H (fun v H' => (∃ p, v = .ref p) ∧ Q v H') E
theorem op_own {op : Operator} {CX : CXT} {C f : Addr} {fd : FuncData} {ps : List Str} {sp : Sp} {E : XK} {n : Nat} (F : FnOk X.prog X.w X.K X.mg X.base CX n f fd ps sp) (hr : Room n X.A) (hc : PySem.W.selfFirst X.K C = true)
    (hs : PySem.W.findIn X.K (.ref C) (PySem.dunder op.info.2) = some (some (.ref f))) (hf : PySem.W.isFn X.K (.ref f) = true) (hb : Binds X.K fd ps []) (hx : Passes CX X E) : OpR X (binaryOp op) (rOwnOp C sp E) := by
  intro pins s σ H x y u v Q I rx ry d
  obtain ⟨a, b, dx, dy, fs, gs, rfl, rfl, ha, hb', hsp⟩ := d
  cases rx
  cases ry
  obtain ⟨mA, J, _⟩ := ins_get I.hok ha
  obtain ⟨mB, J', _⟩ := ins_get I.hok hb'
  obtain ⟨od, J, _⟩ := J.look
  obtain ⟨od', J', _⟩ := J'.look
  obtain ⟨m, hF⟩ := I.fr
  refine PySem.W.binop_K hF I.ok.mod.kin J J'.type hc hs hf ?_
  have hl := F.len _ _ _ _ hsp
  have r2 : Vals [V.ref a, V.ref b] [Value.ref a, Value.ref b] := .cons rfl (.cons rfl .nil)
  refine wpAny_call (codeAny_mono (F.run X.A X.stack s H ⟨[.ref a, .ref b], []⟩ [.ref a, .ref b] [.ref a, .ref b] _ E hr I.env0 (by
    have := hb s [.ref a, .ref b] I.kIn (by simpa using hl)
    simpa using this) r2 hsp) fun r s' hq => ?_)
  cases r with
  | error e => exact hx pins σ H s e s' I hq
  | ok fl =>
    cases fl with
    | next => exact False.elim hq
    | brk => exact False.elim hq
    | cont => exact False.elim hq
    | ret w =>
      obtain ⟨v, H', I', rv, ⟨p, ep⟩, q⟩ := I.after hq
      subst ep
      cases rv
      exact ⟨.ref p, H', I', rfl, q⟩
/-- isinstance(e, c), e the exception that the suite holds, of any dict -/
theorem call_isX {a : Addr} {x : Str} {d : Option Addr} {oe : Obj} {pn : List (Addr × Obj)} (C : ErrC X.K x) (hn : PySem.W.specialIn X.K (.builtin "object.__class__") "__get__" = some (some (.builtin "getset_descriptor.__get__")))
    (ht : PySem.W.takesIn X.K (.builtin "object.__class__") = some true) (hz : Zc (.ref (ga X.K x)) d oe) (hd : ∀ pins s σ H, Inv (X.suite a ((a, oe) :: pn)) pins σ H s → ∀ dd, d = some dd → ∃ od, s.heap.get? dd = some od)
    (hf : ∃ vs, oe.data = .fields vs) : CallR (X.suite a ((a, oe) :: pn)) (.builtin "isinstance") (rIsE X.K (ga X.K x) a) := by
  intro pins s σ H xs us Q I r h
  obtain ⟨c, cv, b, rfl, hcv, e, q⟩ := h
  cases r with
  | cons rx rr =>
    cases rr with
    | cons rt rr =>
      cases rr
      cases rx
      have ec := hcv _ rt
      subst ec
      obtain ⟨hget, _⟩ := I.pin (a, oe) (List.mem_append.mpr (.inl List.mem_cons_self))
      obtain ⟨vs, hv⟩ := hf
      have J : ∃ od, PySem.W.InstAt s.heap a oe (ga X.K x) od := by
        obtain ⟨oc, odd, oda, osl⟩ := oe
        obtain ⟨h1, h2⟩ := hz
        dsimp only at h1 h2 hv
        subst h1 h2 hv
        cases odd with
        | none => exact ⟨none, hget, rfl, rfl, trivial⟩
        | some dd =>
          obtain ⟨od, ho⟩ := hd pins s σ H I dd rfl
          exact ⟨some od, hget, rfl, rfl, ho⟩
      obtain ⟨od, J⟩ := J
      have hcl : (PySem.W.clsIn X.K (ga X.K x)).isSome = true := by
        have z := C.hd
        unfold PySem.W.hasDictIn at z
        cases q : PySem.W.clsIn X.K (ga X.K x) with
        | none => rw [q] at z; cases z
        | some cd => rfl
      exact PySem.W.kia_one (PySem.W.kitx_exc (od := od) hcl C.ga_ C.gg C.ex C.cl hn ht C.hm) I.kIn J e (fun z => nomatch z) fun tk => ⟨.bl b, H, I.kept (t' := tk) fun _ _ z => z, rfl, q⟩
end
/-! ### a comprehension over an instance whose __iter__ gives out iter(its list) -/
/-- what __iter__ does, told of the very state -/
def IterOk (P : Program) (w : World) (K : PySem.W.Frag) (mg : Str → Option Value) (base : Heap) (k : Nat) (C fi : Addr) : Prop := ∀ (A : Around) (outer : List Env) (s : Shared) (H : Hp) (a dx : Addr) (fs : List (Str × V)) (l : Addr) (zs : List V), Room k A → Env0 P w K mg base A outer s H →
  H a = some (.ins C dx fs) → fs.lookup ("sky_rows" : Str) = some (V.ref l) → SqL K H l zs →
  codeAny (model P w) A (.call (.ref fi) ⟨[.ref a], []⟩) (CR (L2.CX P w) outer P w H s (fun v H' => ∃ it, v = .ref it ∧ H it = none ∧ s.heap.objs.size ≤ it ∧ H' = upd H it (ItO l it 0)) E0) s
def iOwn (C : Addr) (K : PySem.W.Frag) (te : TE) : TI := fun σ H R => te σ H fun x H1 => ∃ a dx fs l zs, x = .ref a ∧ H1 a = some (.ins C dx fs) ∧ fs.lookup ("sky_rows" : Str) = some (V.ref l) ∧ SqL K H1 l zs ∧ R (Itl K l) H1
section
variable {X : Cx} {tg e : Expr} {te : TE} {C fi : Addr} {k : Nat}
theorem pi_own (he : PE X e te) (hs : PySem.W.findIn X.K (.ref C) "__iter__" = some (some (.ref fi))) (hf : PySem.W.isFn X.K (.ref fi) = true) (G : IterOk X.prog X.w X.K X.mg X.base k C fi) (hr : Room k X.A) : PI X tg e (iOwn C X.K te) := by
  refine ⟨fun pins s σ H R I h => ?_⟩
  refine thn (he.run pins s σ H _ I h) fun u s1 ⟨v, H1, I1, r1, a, dx, fs, l, zs, ev, ha, hl, hq, hR⟩ => ?_
  subst ev
  cases r1
  obtain ⟨mA, J, _⟩ := ins_get I1.hok ha
  obtain ⟨od, J, _⟩ := J.look
  obtain ⟨m, hF⟩ := I1.fr
  refine PySem.W.owit_iter hF I1.ok.mod.kin J hs hf ?_
  refine wpAny_call (codeAny_mono (G X.A X.stack s1 H1 a dx fs l zs hr I1.env0 ha hl hq) fun r s' hq' => ?_)
  cases r with
  | error e => exact passL pins σ H1 s1 e s' I1 hq'
  | ok fl =>
    cases fl with
    | next => exact False.elim hq'
    | brk => exact False.elim hq'
    | cont => exact False.elim hq'
    | ret w =>
      obtain ⟨v, H', I', rv, it, ev, hn, hge, eH⟩ := I1.after hq'
      subst ev
      rw [eH] at I'
      cases rv
      have hi : upd H1 it (ItO l it 0) it = some (ItO l it 0) := upd_same
      have eo := itO_get I' hi
      have st : s'.heap.IsListIter it l 0 := ⟨_, eo, rfl, rfl⟩
      unfold PySem.W.OwitIt
      refine wpAny_specialOf st.typeIs slot_listiter_next.lookup ?_
      have hi' := hi
      unfold ItO at hi'
      have ed : ItX.dropH (upd H1 it (ItO l it 0)) it = H1 := ItX.dropH_upd hn
      have I2 := ItX.inv_drop I' hi'
      refine ⟨it, [it], _, _, ItX.dropH (upd H1 it (ItO l it 0)) it, rfl, I2, turn_list l it, st, fun b hb => ?_, ?_⟩
      · have e : b = it := by simpa using hb
        rw [e]
        exact ItX.inv_fp I' hi (Nat.le_trans I1.sz hge)
      · rw [ed]
        exact hR
end
/-! ### zip of a tuple and a list -/
def ItzM (K : PySem.W.Frag) (a b : Addr) : It where
  go := fun i H => ∃ (xs ys : List V) (x y : V), SqT K H a xs ∧ SqL K H b ys ∧ xs[i]? = some x ∧ ys[i]? = some y
  yld := fun i H v H' => ∃ (T : Addr) (x y : V), v = .ref T ∧ H T = none ∧ H' = upd H T (.tup [x, y]) ∧ (∀ xs, SqT K H a xs → xs[i]? = some x) ∧ ∀ ys, SqL K H b ys → ys[i]? = some y
  stop := fun i H => ∃ xs ys : List V, SqT K H a xs ∧ SqL K H b ys ∧ i = min xs.length ys.length
def stM (z TI TO i1 i2 a b : Addr) (i : Nat) (h : Heap) : Prop := IsZip h z TI TO .none ∧ IsTupOf2 h TI (.ref i1) (.ref i2) ∧ (∃ a1 a2, IsTupOf2 h TO a1 a2) ∧ h.IsTupleIter i1 a i ∧ h.IsListIter i2 b i
theorem turn_zipM {P : Program} {w : World} {K : PySem.W.Frag} {elts : List Expr} {kk : Nat} {tpos : Pos} {a b z TI TO i1 i2 : Addr} (S : ZipSep2 z TI TO i1 i2 [i1, a] [i2, b]) (n1 : a ≠ i1) (n2 : b ≠ i2) :
    Turn P w K (.Tuple elts kk tpos) (ItzM K a b) [z, TI, TO, i1, i2] z (stM z TI TO i1 i2 a b) where
  mem := List.mem_cons_self
  obj := fun i h st c hc => by
    obtain ⟨hz, hTI, ⟨x, y, hTO⟩, ⟨o1, e1, _, d1⟩, ⟨o2, e2, _, d2⟩⟩ := st
    simp only [List.mem_cons, List.not_mem_nil, or_false] at hc
    rcases hc with rfl | rfl | rfl | rfl | rfl
    · exact ⟨_, hz, fun _ q => nomatch q⟩
    · exact ⟨_, hTI, fun _ q => nomatch q⟩
    · exact ⟨_, hTO, fun _ q => nomatch q⟩
    · exact ⟨o1, e1, fun v q => by rw [d1] at q; cases q⟩
    · exact ⟨o2, e2, fun v q => by rw [d2] at q; cases q⟩
  keep := fun i h h' st k => by
    obtain ⟨hz, hTI, ⟨x, y, hTO⟩, h1, h2⟩ := st
    exact ⟨k z (by simp) _ hz, k TI (by simp) _ hTI, ⟨x, y, k TO (by simp) _ hTO⟩, h1.at fun o q => k i1 (by simp) o q, h2.at fun o q => k i2 (by simp) o q⟩
  item := by
    intro X eP ew eK hc i pins s σ H E I hf st hg
    subst eP ew eK
    have st0 := st
    obtain ⟨hz, hTI, hTO, h1, h2⟩ := st
    obtain ⟨xs, ys, x, y, qx, qy, hx, hy⟩ := hg
    obtain ⟨us, ru, pu, _⟩ := I.tuple qx
    obtain ⟨ws, rw_, pw_, _⟩ := I.list qy
    obtain ⟨u, hu, ru1⟩ := ru.get hx
    obtain ⟨v, hv, rv1⟩ := rw_.get hy
    have lu : i < us.length := (List.getElem?_eq_some_iff.mp hu).1
    have lw : i < ws.length := (List.getElem?_eq_some_iff.mp hv).1
    have D := GoesN.zip2 (prog := X.prog) (w := X.w) (A := X.A) (elts := elts) (x1 := kk) (pos := tpos) S (Draws.tuple (A := X.A.in1) (I.ok.hd hc) i1 a n1 us.toArray) (Draws.list (A := X.A.in1) (I.ok.hd hc) i2 b n2 ws.toArray)
    refine D.goes i s _ _ (by simp; omega) ⟨hz, hTI, hTO, ⟨h1, pu⟩, h2, pw_.isList⟩ fun val h' tk hY st' hk htk => ?_
    obtain ⟨T, x', y', ev, hT, ex, ey, hp⟩ := hY
    obtain ⟨hz', hTI', hTO', ⟨h1', _⟩, h2', _⟩ := st'
    have ex' : x' = u := by
      rw [List.getElem?_toArray, hu] at ex
      exact (Option.some.inj ex).symm
    have ey' : y' = v := by
      rw [List.getElem?_toArray, hv] at ey
      exact (Option.some.inj ey).symm
    subst ev ex' ey'
    have new : ObjOk X.prog X.w (upd H T (.tup [x, y])) h' T (.tup [x, y]) := ⟨by show 2 ≤ sizeLine; decide, [_, _], .cons ru1 (.cons rv1 .nil), hp⟩
    have fr : ∀ c ∈ [z, TO, i1, i2], FpOk X pins H c := fun c hcm => hf c (by
      simp only [List.mem_cons, List.not_mem_nil, or_false] at hcm ⊢
      rcases hcm with q | q | q | q <;> simp [q])
    have J := I.turnedNew (t' := tk) hk fr hT new
    refine ⟨.ref T, _, J, rfl, ⟨T, x, y, rfl, I.hok.fresh hT, rfl, fun l hl => by rw [I.tuple_inj hl qx]; exact hx, fun l hl => by rw [I.list_inj hl qy]; exact hy⟩, ⟨hz', hTI', hTO', h1', h2'⟩, fun c hcm => ?_⟩
    have lt : c < s.heap.objs.size := by
      simp only [List.mem_cons, List.not_mem_nil, or_false] at hcm
      obtain ⟨p1, p2, hTO⟩ := hTO
      obtain ⟨_, e1, _⟩ := h1
      obtain ⟨_, e2, _⟩ := h2
      rcases hcm with rfl | rfl | rfl | rfl | rfl
      · exact Heap.lt_size hz
      · exact Heap.lt_size hTI
      · exact Heap.lt_size hTO
      · exact Heap.lt_size e1
      · exact Heap.lt_size e2
    rw [upd_ne (Nat.ne_of_lt (Nat.lt_of_lt_of_le lt hT))]
    exact (hf c hcm).1
  done := by
    intro X eP ew eK hc i pins s σ H E I hf st hg
    subst eP ew eK
    obtain ⟨hz, hTI, hTO, h1, h2⟩ := st
    obtain ⟨xs, ys, qx, qy, hend⟩ := hg
    obtain ⟨us, ru, pu, _⟩ := I.tuple qx
    obtain ⟨ws, rw_, pw_, _⟩ := I.list qy
    have l1 := ru.length
    have l2 := rw_.length
    have D := GoesN.zip2 (prog := X.prog) (w := X.w) (A := X.A) (elts := elts) (x1 := kk) (pos := tpos) S (Draws.tuple (A := X.A.in1) (I.ok.hd hc) i1 a n1 us.toArray) (Draws.list (A := X.A.in1) (I.ok.hd hc) i2 b n2 ws.toArray)
    have ei : i = min us.toArray.size ws.toArray.size := by
      rw [hend, l1, l2]
      simp
    rw [ei] at h1 h2
    refine D.stops s (fun s1 => Inv X pins σ H s1) _ ⟨hz, hTI, hTO, ⟨h1, pu⟩, h2, pw_.isList⟩ fun h' tk hk htk => ?_
    exact I.turnedL (t' := tk) hk fun c hcm => hf c (by
      simp only [List.mem_cons, List.not_mem_nil, or_false] at hcm ⊢
      rcases hcm with q | q | q | q <;> simp [q])
  self := fun A i s Q E st h => wpAny_pyIter_zip st.1 h
def iZipM (K : PySem.W.Frag) (ta : TA) : TI := fun σ H R => ta σ H fun vs H1 => ∃ a b xs ys, vs = [.ref a, .ref b] ∧ SqT K H1 a xs ∧ SqL K H1 b ys ∧ R (ItzM K a b) H1
theorem pi_zipM {X : Cx} {e e2 : Expr} {ta : TA} {p pos tpos : Pos} {elts : List Expr} {kk : Nat} (hg : Gl X "zip") (hm : X.mg "zip" = none) (ha : PA X [e, e2] ta)
    (hs : starEach [e, e2] X.env = (false, eval e X.env) :: starEach [e2] X.env := by rfl) (hpl : (backTo pos (starEach [e2] X.env)).any (·.1) = false := by rfl) :
    PI X (.Tuple elts kk tpos) (.Call (.Name "zip" p) [e, e2] [] pos) (iZipM X.K ta) := by
  refine ⟨fun pins s σ H R I h => ?_⟩
  refine Call_ (ld_blt I hg hm PyProof.Rows.boot_zip (PyProof.Rows.callWith_type1 (thn (ha.run pos pins s σ H _ I h) fun us s1 ⟨vs, H1, I1, r1, q1⟩ => ?_) hs hpl))
  obtain ⟨a, b, xs, ys, ex, qx, qy, q⟩ := q1
  subst ex
  cases r1 with
  | cons r rr =>
    cases rr with
    | cons r' rr =>
      cases rr
      cases r
      cases r'
      obtain ⟨its, rv, p1, _⟩ := I1.tuple qx
      obtain ⟨its2, rv2, p2, _⟩ := I1.list qy
      obtain ⟨o1, ho1, _⟩ := id p1
      have la : a < s1.heap.objs.size := Heap.lt_size ho1
      have lb : b < s1.heap.objs.size := p2.lt
      refine zip_begins2 (begins_tuple a its.toArray) (begins_list b its2.toArray) p1 p2.isList fun h' hz hTI hTO h1 h2 hsz hk => wpAny_pyIter_zip hz ?_
      have I2 : Inv X pins σ H1 { s1 with heap := h' } := I1.kept (t' := s1.toks) hk
      refine ⟨s1.heap.objs.size + 4, [s1.heap.objs.size + 4, s1.heap.objs.size + 2, s1.heap.objs.size + 3, s1.heap.objs.size, s1.heap.objs.size + 1], _, ItzM X.K a b, H1, rfl, I2, turn_zipM (zip_sep2 (fp1 := [a]) (fp2 := [b]) (fun c hc => by
        rw [List.mem_singleton.mp hc]; exact la) (fun c hc => by rw [List.mem_singleton.mp hc]; exact lb)) (Nat.ne_of_lt la) (Nat.ne_of_lt (Nat.lt_succ_of_lt lb)), ⟨hz, hTI, ⟨_, _, hTO⟩, ⟨_, h1, rfl, rfl⟩, ⟨_, h2, rfl, rfl⟩⟩, fun c hcm => ?_, q⟩
      have le : s1.heap.objs.size ≤ c := by
        simp only [List.mem_cons, List.not_mem_nil, or_false] at hcm
        rcases hcm with q | q | q | q | q <;> rw [q]
        · exact Nat.le_add_right _ _
        · exact Nat.le_add_right _ _
        · exact Nat.le_add_right _ _
        · exact Nat.le_refl _
        · exact Nat.le_add_right _ _
      exact I1.fpOk le (I1.hok.fresh le)
/-- the loop, both of one length -/
theorem for_zipM {K : PySem.W.Frag} {a b : Addr} {xs ys : List V} {g : TG} {tb : TS} {D : Ends} {σ : L2.St} {H : Hp} (hl : xs.length = ys.length) (Pv : Nat → L2.St → Hp → Prop) (h0 : Pv 0 σ H) (hq : ∀ i σ H, Pv i σ H → SqT K H a xs ∧ SqL K H b ys)
    (hs : ∀ (i : Nat) (x y : V) (T : Addr) (σ : L2.St) (H : Hp), xs[i]? = some x → ys[i]? = some y → Pv i σ H → H T = none → g (.ref T) σ (upd H T (.tup [x, y])) fun σ2 H2 => tb { D with nx := Pv (i + 1), ct := Pv (i + 1), bk := D.nx } σ2 H2)
    (hd : ∀ σ H, Pv xs.length σ H → D.nx σ H) :
    ∃ W : Nat → Nat → L2.St → Hp → Prop, (∃ m, W 0 m σ H) ∧ ∀ i m σ H, W i m σ H →
      ((ItzM K a b).stop i H ∧ D.nx σ H) ∨ ((ItzM K a b).go i H ∧ ∃ N : L2.St → Hp → Prop, (∀ σ' H', N σ' H' → ∃ m', m' < m ∧ W (i + 1) m' σ' H') ∧ ∀ v H', (ItzM K a b).yld i H v H' → g v σ H' fun σ2 H2 => tb { D with nx := N, ct := N, bk := D.nx } σ2 H2) := by
  refine ⟨fun i m σ H => i + m = xs.length ∧ Pv i σ H, ⟨xs.length, Nat.zero_add _, h0⟩, fun i m σ H ⟨e, hP⟩ => ?_⟩
  obtain ⟨q1, q2⟩ := hq i σ H hP
  cases m with
  | zero =>
    have ei : i = xs.length := e
    exact .inl ⟨⟨xs, ys, q1, q2, by omega⟩, hd σ H (ei ▸ hP)⟩
  | succ m =>
    have l1 : i < xs.length := by omega
    have l2 : i < ys.length := by omega
    have e1 : xs[i]? = some xs[i] := List.getElem?_eq_getElem l1
    have e2 : ys[i]? = some ys[i] := List.getElem?_eq_getElem l2
    refine .inr ⟨⟨xs, ys, _, _, q1, q2, e1, e2⟩, Pv (i + 1), fun σ' H' z => ⟨m, Nat.lt_succ_self m, by omega, z⟩, fun v H' y => ?_⟩
    obtain ⟨T, x, y', ev, hT, eH, h1, h2⟩ := y
    subst ev eH
    exact hs i x y' T σ H (h1 xs q1) (h2 ys q2) hP hT
end Wk
set_option maxHeartbeats 4000000
namespace Wk
open PySem PySem.Spec PyProof.Rows L2
/-! ### promises by the number of arguments -/
def sp0 (f : Hp → VK → XK → Prop) : Sp := fun vs H Q E => vs = [] ∧ f H Q E
def sp1 (f : V → Hp → VK → XK → Prop) : Sp := fun vs H Q E => ∃ a, vs = [a] ∧ f a H Q E
def sp2 (f : V → V → Hp → VK → XK → Prop) : Sp := fun vs H Q E => ∃ a b, vs = [a, b] ∧ f a b H Q E
def sp3 (f : V → V → V → Hp → VK → XK → Prop) : Sp := fun vs H Q E => ∃ a b c, vs = [a, b, c] ∧ f a b c H Q E
def sp4 (f : V → V → V → V → Hp → VK → XK → Prop) : Sp := fun vs H Q E => ∃ a b c d, vs = [a, b, c, d] ∧ f a b c d H Q E
theorem sp0_len {f} : ∀ vs H Q E, sp0 f vs H Q E → vs.length = 0 := fun vs H Q E h => by obtain ⟨rfl, _⟩ := h; rfl
theorem sp1_len {f} : ∀ vs H Q E, sp1 f vs H Q E → vs.length = 1 := fun vs H Q E h => by obtain ⟨_, rfl, _⟩ := h; rfl
theorem sp2_len {f} : ∀ vs H Q E, sp2 f vs H Q E → vs.length = 2 := fun vs H Q E h => by obtain ⟨_, _, rfl, _⟩ := h; rfl
theorem sp3_len {f} : ∀ vs H Q E, sp3 f vs H Q E → vs.length = 3 := fun vs H Q E h => by obtain ⟨_, _, _, rfl, _⟩ := h; rfl
theorem sp4_len {f} : ∀ vs H Q E, sp4 f vs H Q E → vs.length = 4 := fun vs H Q E h => by obtain ⟨_, _, _, _, rfl, _⟩ := h; rfl
/-! ### a def that keeps its promise -/
structure Ok (P : Program) (w : World) (K : PySem.W.Frag) (mg : Str → Option Value) (base : Heap) (k : Nat) (x : Str) (ps : List Str) (sp : Sp) : Prop where
  ex : ∃ fd, Binds K fd ps [] ∧ FnOk P w K mg base (L2.CX P w) k (ga K x) fd ps sp
  g : mg x = some (.ref (ga K x))
  kp : PySem.W.keepIn K (.ref (ga K x)) = true
structure OkM (P : Program) (w : World) (K : PySem.W.Frag) (mg : Str → Option Value) (base : Heap) (k : Nat) (C m : Str) (ps : List Str) (sp : Sp) : Prop where
  ex : ∃ fd, Binds K fd ps [] ∧ FnOk P w K mg base (L2.CX P w) k (He.ma K (ga K C) m) fd ps sp
section
variable {P : Program} {w : World} {K : PySem.W.Frag} {mg : Str → Option Value} {base : Heap} {k : Nat} {x C m : Str} {ps : List Str} {sp : Sp}
noncomputable def OkM.fd (d : OkM P w K mg base k C m ps sp) : FuncData := d.ex.choose
theorem OkM.b (d : OkM P w K mg base k C m ps sp) : Binds K d.fd ps [] := d.ex.choose_spec.1
theorem OkM.fn (d : OkM P w K mg base k C m ps sp) : FnOk P w K mg base (L2.CX P w) k (He.ma K (ga K C) m) d.fd ps sp := d.ex.choose_spec.2
variable {nm qual : Str} {pa : Arguments} {bd : List Stmt} {sc : Scope} {dvs : List V} {kws : List (Str × V)} {fd : FuncData} {N : List Str} {n : Nat}
theorem okFN (F : FunD K nm qual pa bd sc dvs kws (ga K x) fd) (g : mg x = some (.ref (ga K x))) (kp : PySem.W.keepIn K (.ref (ga K x)) = true) (hb : Binds K fd ps []) (S : FnScope N ps sc) (len : ∀ vs H Q E, sp vs H Q E → vs.length = ps.length)
    (hbody : ∀ (cdv : Value) (A : Around) (outer : List Env) (s : Shared) (H : Hp) (vs : List V) (Q : VK) (E : XK), Room k (A.deeper (envOfC qual sc s.heap.objs.size (ga K x) cdv)) → sp vs H Q E →
      ∃ t, PSs (cxOf (L2.CX P w) P w K mg base N qual sc (ga K x) cdv A outer s H E).nox bd t ∧ t { nx := fun _ H' => Q .non H', rt := Q } (start N vs) H) : Ok P w K mg base (k + 1) x ps sp :=
  ⟨⟨fd, hb, F.ok S len fun cdv A outer s H vs Q E hr h => let ⟨t, h1, h2⟩ := hbody cdv A outer s H vs Q E hr h; ⟨t, h1.nox, h2⟩⟩, g, kp⟩
theorem okFX (F : FunD K nm qual pa bd sc dvs kws (ga K x) fd) (g : mg x = some (.ref (ga K x))) (kp : PySem.W.keepIn K (.ref (ga K x)) = true) (hb : Binds K fd ps []) (S : FnScope N ps sc) (len : ∀ vs H Q E, sp vs H Q E → vs.length = ps.length)
    (hbody : ∀ (cdv : Value) (A : Around) (outer : List Env) (s : Shared) (H : Hp) (vs : List V) (Q : VK) (E : XK), Room k (A.deeper (envOfC qual sc s.heap.objs.size (ga K x) cdv)) → sp vs H Q E →
      ∃ t, PSs (cxOf (L2.CX P w) P w K mg base N qual sc (ga K x) cdv A outer s H E) bd t ∧ t { nx := fun _ H' => Q .non H', rt := Q } (start N vs) H) : Ok P w K mg base (k + 1) x ps sp :=
  ⟨⟨fd, hb, F.ok S len hbody⟩, g, kp⟩
theorem okMN (F : FunD K nm qual pa bd sc dvs kws (He.ma K (ga K C) m) fd) (hb : Binds K fd ps []) (S : FnScope N ps sc) (len : ∀ vs H Q E, sp vs H Q E → vs.length = ps.length)
    (hbody : ∀ (cdv : Value) (A : Around) (outer : List Env) (s : Shared) (H : Hp) (vs : List V) (Q : VK) (E : XK), Room k (A.deeper (envOfC qual sc s.heap.objs.size (He.ma K (ga K C) m) cdv)) → sp vs H Q E →
      ∃ t, PSs (cxOf (L2.CX P w) P w K mg base N qual sc (He.ma K (ga K C) m) cdv A outer s H E).nox bd t ∧ t { nx := fun _ H' => Q .non H', rt := Q } (start N vs) H) : OkM P w K mg base (k + 1) C m ps sp :=
  ⟨⟨fd, hb, F.ok S len fun cdv A outer s H vs Q E hr h => let ⟨t, h1, h2⟩ := hbody cdv A outer s H vs Q E hr h; ⟨t, h1.nox, h2⟩⟩⟩
theorem okMX (F : FunD K nm qual pa bd sc dvs kws (He.ma K (ga K C) m) fd) (hb : Binds K fd ps []) (S : FnScope N ps sc) (len : ∀ vs H Q E, sp vs H Q E → vs.length = ps.length)
    (hbody : ∀ (cdv : Value) (A : Around) (outer : List Env) (s : Shared) (H : Hp) (vs : List V) (Q : VK) (E : XK), Room k (A.deeper (envOfC qual sc s.heap.objs.size (He.ma K (ga K C) m) cdv)) → sp vs H Q E →
      ∃ t, PSs (cxOf (L2.CX P w) P w K mg base N qual sc (He.ma K (ga K C) m) cdv A outer s H E) bd t ∧ t { nx := fun _ H' => Q .non H', rt := Q } (start N vs) H) : OkM P w K mg base (k + 1) C m ps sp :=
  ⟨⟨fd, hb, F.ok S len hbody⟩⟩
end
theorem tyFn {K : PySem.W.Frag} {f : Addr} (h : PySem.W.isFn K (.ref f) = true) : PySem.W.typeIn K (.ref f) = some (.type "function") := beq_iff_eq.mp h
section
variable {X : Cx} {k : Nat} {x : Str} {ps : List Str} {sp : Sp} {E : XK} {p pos : Pos} {e : Expr} {es : List Expr} {t : TA}
theorem pe_f (d : Ok X.prog X.w X.K X.mg X.base k x ps sp) (hr : Room k X.A) (hg : Gl X x) (hx : Passes (L2.CX X.prog X.w) X E) (ha : PA X (e :: es) t) (hdb : (x == ("__debug__" : Str)) = false := by decide)
    (he : starEach (e :: es) X.env = (false, eval e X.env) :: starEach es X.env := by rfl) (hpl : (backTo pos (starEach es X.env)).any (·.1) = false := by rfl) : PE X (.Call (.Name x p) (e :: es) [] pos) (tCall sp [] E t) := by
  obtain ⟨fd, hb, F⟩ := d.ex
  exact pe_call F hr hg d.g d.kp hb .nil hx ha hdb he hpl
theorem pe_f0 (d : Ok X.prog X.w X.K X.mg X.base k x ps sp) (hr : Room k X.A) (hg : Gl X x) (hx : Passes (L2.CX X.prog X.w) X E) (hdb : (x == ("__debug__" : Str)) = false := by decide) : PE X (.Call (.Name x p) [] [] pos) (tCall sp [] E tNil) := by
  obtain ⟨fd, hb, F⟩ := d.ex
  exact pe_call0 F hr hg d.g d.kp hb .nil hx hdb
end
/-! ### tests -/
theorem ifD {p A B : Prop} [Decidable p] (h1 : p → A) (h2 : ¬ p → B) : if decide p = true then A else B := by
  by_cases h : p
  · rw [if_pos (decide_eq_true h)]; exact h1 h
  · rw [if_neg (fun z => h (of_decide_eq_true z))]; exact h2 h
theorem ifEq {i j : Int} {A B : Prop} (h1 : i = j → A) (h2 : i ≠ j → B) : if decide (V.int i = V.int j) = true then A else B :=
  ifD (fun e => h1 (by injection e)) fun n => h2 fun e => n (by rw [e])
theorem ifNe {i j : Int} {A B : Prop} (h1 : i ≠ j → A) (h2 : i = j → B) : if (!decide (V.int i = V.int j)) = true then A else B := by
  by_cases h : i = j
  · subst h; simp; exact h2 rfl
  · have : ¬ (V.int i = V.int j) := fun e => h (by injection e)
    simp [this]; exact h1 h
/-! ### kinds -/
theorem k_int_int {K : PySem.W.Frag} : PySem.W.kitOne K (.type "int") (.type "int") = some true := kit_ty (by decide +kernel)
theorem k_int_bool {K : PySem.W.Frag} : PySem.W.kitOne K (.type "int") (.type "bool") = some false := kit_ty (by decide +kernel)
theorem k_tup_tup {K : PySem.W.Frag} : PySem.W.kitOne K (.type "tuple") (.type "tuple") = some true := kit_ty (by decide +kernel)
theorem k_lst_lst {K : PySem.W.Frag} : PySem.W.kitOne K (.type "list") (.type "list") = some true := kit_ty (by decide +kernel)
theorem k_str_str {K : PySem.W.Frag} : PySem.W.kitOne K (.type "str") (.type "str") = some true := kit_ty (by decide +kernel)
theorem k_own {K : PySem.W.Frag} {a : Addr} : PySem.W.kitOne K (.ref a) (.ref a) = some true := by
  unfold PySem.W.kitOne
  rw [if_pos (by simp)]
/-! ### heaps that grow -/
theorem same_new {H : Hp} {p : Addr} {o : HO} (h : H p = none) : Same H (upd H p o) := fun b u e => by
  rw [upd_ne (ne_of_none e h)]
  exact e
theorem Same.new {H H1 : Hp} {p : Addr} {o : HO} (s : Same H H1) (h : H1 p = none) : Same H (upd H1 p o) := s.trans (same_new h)
/-! ### fractions in the heap -/
abbrev frO (x : Rat) : HO := .tup [.int x.num, .int (x.den : Int)]
def FrV (H : Hp) (v : V) (x : Rat) : Prop := ∃ a, v = .ref a ∧ H a = some (frO x)
theorem FrV.mono {H H' : Hp} {v : V} {x : Rat} (h : FrV H v x) (s : Same H H') : FrV H' v x := let ⟨a, e, q⟩ := h; ⟨a, e, s a _ q⟩
theorem FrV.new {H : Hp} {p : Addr} {x : Rat} : FrV (upd H p (frO x)) (.ref p) x := ⟨p, rfl, upd_same⟩
/-- a new value: the heap has grown, P of the value -/
def Give (H : Hp) (P : V → Hp → Prop) (Q : VK) : Prop := ∀ v H', Same H H' → P v H' → Q v H'
theorem line2 : (2 : Nat) ≤ sizeLine := by decide
end Wk
set_option maxHeartbeats 4000000
namespace Wk
open PySem PySem.Spec PyProof.Rows L2
section
variable {P : Program} {w : World} {K : PySem.W.Frag} {mg : Str → Option Value} {base : Heap}
/-! ### whole numbers, the lowest terms -/
def spInt : Sp := sp1 fun a H Q _ => ∃ i : Int, a = .int i ∧ Q (.bl true) H
abbrev N_whole_number : List Str := ["value"]
theorem sc_whole_number : FnScope N_whole_number ["value"] (defScope S_whole_number) := ⟨rfl, rfl, rfl, by decide +kernel, rfl, by decide +kernel, by decide +kernel⟩
theorem ok_whole_number (T : Tx K mg)   : Ok P w K mg base 1 "whole_number" ["value"] spInt := by
  obtain ⟨fd, F⟩ := T.f_whole_number
  have sc := sc_whole_number
  refine okFN (F := F) T.g_whole_number F.kp (F.bindsN fun _ _ _ _ _ _ us hl => match us, hl with | [_], _ => rfl) sc sp1_len (fun cdv A outer s H vs Q E hr h => ?_)
  obtain ⟨u, rfl, h⟩ := h
  refine ⟨_, (pss_one (ps_ret (pe_and (pe_callB call_isi (by rfl) T.b_isinstance (by decide +kernel) (pa_cons (pv 0) (pa_cons (pe_bltn (v := .ty "int") rfl T.b_int (by decide +kernel) rfl) pa_nil))) (pe_one (pe_not (pe_callB call_isi (by rfl) T.b_isinstance (by decide +kernel) (pa_cons (pv 0) (pa_cons (pe_bltn (v := .ty "bool") rfl T.b_bool (by decide +kernel) rfl) pa_nil)))))))), ?_⟩
  obtain ⟨i, rfl, h⟩ := h
  refine ⟨_, rfl, _, _, _, _, true, rfl, .ty _, .base (.int _), k_int_int, true, rfl, ?_⟩
  refine iteT ?_
  exact ⟨_, rfl, _, _, _, _, false, rfl, .ty _, .base (.int _), k_int_bool, false, rfl, h⟩
def spGcd : Sp := sp2 fun a b H Q _ => ∃ i j : Int, a = .int i ∧ b = .int j ∧ Q (.int (Int.gcd i j : Nat)) H
theorem abs_gcd (i j : Int) : Int.gcd (if i < 0 then -i else i) (if j < 0 then -j else j) = Int.gcd i j := by
  split <;> split <;> simp
theorem abs_nn (i : Int) : 0 ≤ if i < 0 then -i else i := by split <;> omega
abbrev N_common_divisor : List Str := ["left", "right"]
theorem sc_common_divisor : FnScope N_common_divisor ["left", "right"] (defScope S_common_divisor) := ⟨rfl, rfl, rfl, by decide +kernel, rfl, by decide +kernel, by decide +kernel⟩
theorem ok_common_divisor (T : Tx K mg)   : Ok P w K mg base 1 "common_divisor" ["left", "right"] spGcd := by
  obtain ⟨fd, F⟩ := T.f_common_divisor
  have sc := sc_common_divisor
  refine okFN (F := F) T.g_common_divisor F.kp (F.bindsN fun _ _ _ _ _ _ us hl => match us, hl with | [_, _], _ => rfl) sc sp2_len (fun cdv A outer s H vs Q E hr h => ?_)
  obtain ⟨u, v, rfl, h⟩ := h
  refine ⟨_, (pss_cons (ps_set (i := 0) sc.nd rfl (Or.inl rfl) (pe_callB call_abs (by rfl) T.b_abs (by decide +kernel) (pa_cons (pv 0) pa_nil)))
      (pss_cons (ps_set (i := 1) sc.nd rfl (Or.inl rfl) (pe_callB call_abs (by rfl) T.b_abs (by decide +kernel) (pa_cons (pv 1) pa_nil)))
      (pss_cons (ps_while PassesOwn.never (pt_cmpR op_ne (pv 1) pe_int (nomark _)) (pss_one (ps_par (i := 0) (j := 1) rfl sc.nd rfl rfl (by decide) rfl rfl (pa_cons (pv 1) (pa_cons (pe_op op_mod (pv 0) (pv 1)) pa_nil)) (by rfl))))
      (pss_one (ps_ret (pv 0)))))), ?_⟩
  obtain ⟨i, j, rfl, rfl, h⟩ := h
  refine ⟨_, rfl, _, rfl, ?_⟩
  refine ⟨_, rfl, _, rfl, ?_⟩
  let W : Nat → L2.St → Hp → Prop := fun m σ H' => ∃ a b : Int, σ = [some (.int a), some (.int b)] ∧ H' = H ∧ 0 ≤ a ∧ 0 ≤ b ∧ Int.gcd a b = Int.gcd i j ∧ m = b.toNat
  refine ⟨W, ⟨_, _, _, rfl, rfl, abs_nn i, abs_nn j, abs_gcd i j, rfl⟩, ?_⟩
  rintro m σ H' ⟨a, b, rfl, rfl, ha, hb, hg, rfl⟩
  refine ⟨_, rfl, rfl, _, rfl, ifNe (fun hne => ?_) (fun he => ?_)⟩
  · refine ⟨fun σ' H' => ∃ m', m' < b.toNat ∧ W m' σ' H', fun _ _ z => z, ?_⟩
    refine ⟨_, rfl, _, rfl, _, rfl, _, _, rfl, rfl, (by show 0 < b; omega), _, _, rfl, ?_⟩
    have h1 := Int.emod_nonneg a hne
    have h2 := Int.emod_lt_of_pos a (show 0 < b by omega)
    exact ⟨(a % b).toNat, by omega, b, a % b, rfl, rfl, hb, h1, (gcd_step a b).trans hg, rfl⟩
  · refine ⟨_, rfl, ?_⟩
    subst he
    rw [Int.gcd_zero] at hg
    have : a = ((Int.gcd i j : Nat) : Int) := by omega
    rw [this]
    exact h
/-- n / d in lowest terms: a new tuple -/
def spLow : Sp := sp2 fun a b H Q _ => ∃ n d : Int, a = .int n ∧ b = .int d ∧ d ≠ 0 ∧ (Int.gcd n d).log2 < 9000 ∧ ∀ p, H p = none → Q (.ref p) (upd H p (frO (Rat.divInt n d)))
abbrev N_lowest : List Str := ["numerator", "denominator", "divisor"]
theorem sc_lowest : FnScope N_lowest ["numerator", "denominator"] (defScope S_lowest) := ⟨rfl, rfl, rfl, by decide +kernel, rfl, by decide +kernel, by decide +kernel⟩
theorem ok_lowest (T : Tx K mg) (d_common_divisor : Ok P w K mg base 1 "common_divisor" ["left", "right"] spGcd)  : Ok P w K mg base 2 "lowest" ["numerator", "denominator"] spLow := by
  obtain ⟨fd, F⟩ := T.f_lowest
  have sc := sc_lowest
  refine okFN (F := F) T.g_lowest F.kp (F.bindsN fun _ _ _ _ _ _ us hl => match us, hl with | [_, _], _ => rfl) sc sp2_len (fun cdv A outer s H vs Q E hr h => ?_)
  obtain ⟨u, v, rfl, h⟩ := h
  refine ⟨_, (pss_cons (ps_set (i := 2) sc.nd rfl (Or.inl rfl) (pe_f d_common_divisor (hr.mono (by decide)) rfl passL (pa_cons (pv 0) (pa_cons (pv 1) pa_nil))))
      (pss_cons (ps_if (pt_cmpR op_lt (pv 1) pe_int (nomark _)) (pss_one (ps_set (i := 2) sc.nd rfl (Or.inl rfl) (pe_un un_neg (pv 2)))) pss_nil)
      (pss_one (ps_ret (pe_tup (pa_cons (pe_op op_fdivZ (pv 0) (pv 2)) (pa_cons (pe_op op_fdivZ (pv 1) (pv 2)) pa_nil))))))), ?_⟩
  obtain ⟨n, d, rfl, rfl, hd, hl, h⟩ := h
  refine ⟨_, rfl, _, rfl, _, _, rfl, n, d, rfl, rfl, ?_⟩
  have key : ∀ z : Int, z = lowD n d → ∀ q, H q = none → Q (.ref q) (upd H q (.tup [.int (n.fdiv z), .int (d.fdiv z)])) := by
    rintro z rfl q hq
    rw [low_num n d hd, low_den n d hd]
    exact h q hq
  have cz : CDivZ n (lowD n d) ∧ CDivZ d (lowD n d) := by
    refine ⟨⟨lowD_ne hd, ?_⟩, lowD_ne hd, ?_⟩ <;> rw [lowD_abs] <;> exact hl
  refine ⟨_, rfl, _, _, rfl, rfl, _, rfl, ifD (fun hn => ?_) (fun hn => ?_)⟩
  · have e : -((Int.gcd n d : Nat) : Int) = lowD n d := by unfold lowD; rw [if_pos hn]
    rw [← e] at cz
    exact ⟨_, rfl, _, rfl, _, rfl, _, rfl, _, _, rfl, rfl, cz.1, _, rfl, _, rfl, _, _, rfl, rfl, cz.2, line2, fun q hq => key _ e q hq⟩
  · have e : ((Int.gcd n d : Nat) : Int) = lowD n d := by unfold lowD; rw [if_neg hn]
    rw [← e] at cz
    exact ⟨_, rfl, _, rfl, _, _, rfl, rfl, cz.1, _, rfl, _, rfl, _, _, rfl, rfl, cz.2, line2, fun q hq => key _ e q hq⟩
end
end Wk
set_option maxHeartbeats 4000000
namespace Wk
open PySem PySem.Spec PyProof.Rows L2
section
variable {P : Program} {w : World} {K : PySem.W.Frag} {mg : Str → Option Value} {base : Heap}
/-! ### fractions: checks -/
abbrev Big (x : Rat) : Prop := Sz 4400 x
theorem cmul {i j : Int} {a b : Nat} (ha : i.natAbs < 2 ^ a) (hb : j.natAbs < 2 ^ b) (h0 : 0 < a := by decide) (h1 : 0 < b := by decide) (h : a + b ≤ 1000000 := by decide) : CMulW i j := wide_mul ha hb h0 h1 h
theorem sq2 {K : PySem.W.Frag} {H : Hp} {a : Addr} {x : Rat} (h : H a = some (frO x)) : SqT K H a [.int x.num, .int (x.den : Int)] := SqT.of h
theorem at_0 {α : Type} {a : α} {l : List α} : atI (a :: l) (0 : Int) = some a := atI_nat (j := 0) rfl
theorem at_1 {α : Type} {a b : α} {l : List α} : atI (a :: b :: l) (1 : Int) = some b := atI_nat (j := 1) rfl
def spPrec : Sp := sp2 fun a b H Q _ => ∃ x y : Rat, FrV H a x ∧ FrV H b y ∧ Big x ∧ Big y ∧ Q (.bl (decide (x < y))) H
theorem dec_lt (x y : Rat) : decide (x.num * (y.den : Int) < y.num * (x.den : Int)) = decide (x < y) := by
  have := Rat.lt_iff x y
  by_cases h : x < y
  · rw [decide_eq_true h, decide_eq_true (this.mp h)]
  · rw [decide_eq_false h, decide_eq_false fun z => h (this.mpr z)]
abbrev N_precedes : List Str := ["left", "right"]
theorem sc_precedes : FnScope N_precedes ["left", "right"] (defScope S_precedes) := ⟨rfl, rfl, rfl, by decide +kernel, rfl, by decide +kernel, by decide +kernel⟩
theorem ok_precedes (T : Tx K mg)   : Ok P w K mg base 1 "precedes" ["left", "right"] spPrec := by
  obtain ⟨fd, F⟩ := T.f_precedes
  have sc := sc_precedes
  refine okFN (F := F) T.g_precedes F.kp (F.bindsN fun _ _ _ _ _ _ us hl => match us, hl with | [_, _], _ => rfl) sc sp2_len (fun cdv A outer s H vs Q E hr h => ?_)
  obtain ⟨u, v, rfl, h⟩ := h
  refine ⟨_, (pss_one (ps_ret (pe_cmpR op_lt (pe_op op_mulW (pe_ix ix_tup (pv 0) pe_int (fun _ _ => rfl)) (pe_ix ix_tup (pv 1) pe_int (fun _ _ => rfl))) (pe_op op_mulW (pe_ix ix_tup (pv 1) pe_int (fun _ _ => rfl)) (pe_ix ix_tup (pv 0) pe_int (fun _ _ => rfl))) (nomark _)))), ?_⟩
  obtain ⟨x, y, ⟨a, rfl, ha⟩, ⟨b, rfl, hb⟩, bx, by_, h⟩ := h
  rw [← dec_lt] at h
  exact ⟨_, rfl, _, _, _, _, rfl, rfl, sq2 ha, at_0, _, rfl, _, _, _, _, rfl, rfl, sq2 hb, at_1, _, _, rfl, rfl, cmul bx.1 by_.d,
    _, rfl, _, _, _, _, rfl, rfl, sq2 hb, at_0, _, rfl, _, _, _, _, rfl, rfl, sq2 ha, at_1, _, _, rfl, rfl, cmul by_.1 bx.d, _, _, rfl, rfl, h⟩
def spIsFr : Sp := sp1 fun a H Q _ => ∃ x : Rat, FrV H a x ∧ Q (.bl true) H
theorem len_fr {K : PySem.W.Frag} {H : Hp} {a : Addr} {x : Rat} (h : H a = some (frO x)) : LenV K (.ref a) H 2 := .inr ⟨_, sq2 h, rfl⟩
abbrev N_is_fraction : List Str := ["value", "numerator", "denominator"]
theorem sc_is_fraction : FnScope N_is_fraction ["value"] (defScope S_is_fraction) := ⟨rfl, rfl, rfl, by decide +kernel, rfl, by decide +kernel, by decide +kernel⟩
theorem ok_is_fraction (T : Tx K mg) (d_common_divisor : Ok P w K mg base 1 "common_divisor" ["left", "right"] spGcd) (d_whole_number : Ok P w K mg base 1 "whole_number" ["value"] spInt)  : Ok P w K mg base 2 "is_fraction" ["value"] spIsFr := by
  obtain ⟨fd, F⟩ := T.f_is_fraction
  have sc := sc_is_fraction
  refine okFN (F := F) T.g_is_fraction F.kp (F.bindsN fun _ _ _ _ _ _ us hl => match us, hl with | [_], _ => rfl) sc sp1_len (fun cdv A outer s H vs Q E hr h => ?_)
  obtain ⟨u, rfl, h⟩ := h
  refine ⟨_, (pss_cons (ps_if (PW.pt (pw_or (pt_not (pt_val (pe_callB call_isi (by rfl) T.b_isinstance (by decide +kernel) (pa_cons (pv 0) (pa_cons (pe_bltn (v := .ty "tuple") rfl T.b_tuple (by decide +kernel) rfl) pa_nil))))) (pw_or1 (pt_cmpR op_ne (pe_callB call_len (by rfl) T.b_len PySem.boot_len (pa_cons (pv 0) pa_nil)) pe_int (nomark _))))) (pss_one (ps_ret pe_bl)) pss_nil)
      (pss_cons (ps_asg (pv 0) (pg_tup rfl (pgs_cons (pg_name (i := 1) sc.nd rfl (Or.inl rfl)) (pgs_cons (pg_name (i := 2) sc.nd rfl (Or.inl rfl)) pgs_nil))))
      (pss_cons (ps_if (PW.pt (pw_or (pt_not (pt_val (pe_f d_whole_number (hr.mono (by decide)) rfl passL (pa_cons (pv 1) pa_nil)))) (pw_or1 (pt_not (pt_val (pe_f d_whole_number (hr.mono (by decide)) rfl passL (pa_cons (pv 2) pa_nil))))))) (pss_one (ps_ret pe_bl)) pss_nil)
      (pss_one (ps_ret (pe_and (pe_cmpR op_ge (pv 2) pe_int (nomark _)) (pe_one (pe_cmpR op_eq (pe_f d_common_divisor (hr.mono (by decide)) rfl passL (pa_cons (pv 1) (pa_cons (pv 2) pa_nil))) pe_int (nomark _))))))))), ?_⟩
  obtain ⟨x, ⟨a, rfl, ha⟩, h⟩ := h
  refine ⟨_, rfl, _, _, _, _, true, rfl, .ty _, .base (.tup ha), k_tup_tup, true, rfl, ?_⟩
  refine iteF ?_
  refine ⟨_, rfl, _, 2, rfl, len_fr ha, rfl, _, rfl, ifNe (fun hne => absurd rfl hne) (fun _ => ?_)⟩
  refine ⟨_, rfl, _, _, rfl, sq2 ha, rfl, _, _, rfl, _, _, rfl, rfl, ?_⟩
  refine ⟨_, rfl, _, rfl, _, rfl, true, rfl, iteF ?_⟩
  refine ⟨_, rfl, _, rfl, _, rfl, true, rfl, iteF ?_⟩
  have dg := den_gt x
  refine ⟨_, rfl, _, _, rfl, rfl, _, rfl, ifD (fun _ => ?_) (fun n => absurd (show (1 : Int) ≤ (x.den : Int) by omega) n)⟩
  have e : decide (V.int ((Int.gcd x.num (x.den : Int) : Nat) : Int) = V.int 1) = true := decide_eq_true (by rw [red]; rfl)
  refine ⟨_, rfl, _, rfl, _, _, rfl, _, _, rfl, rfl, rfl, ?_⟩
  show Q (.bl (decide (V.int ((Int.gcd x.num (x.den : Int) : Nat) : Int) = V.int 1))) H
  rw [e]
  exact h
def spPair : Sp := sp2 fun a b H Q _ => ∃ x y : Rat, FrV H a x ∧ FrV H b y ∧ Q .non H
abbrev N_check_pair : List Str := ["left", "right"]
theorem sc_check_pair : FnScope N_check_pair ["left", "right"] (defScope S_check_pair) := ⟨rfl, rfl, rfl, by decide +kernel, rfl, by decide +kernel, by decide +kernel⟩
theorem ok_check_pair (T : Tx K mg) (d_is_fraction : Ok P w K mg base 2 "is_fraction" ["value"] spIsFr)  : Ok P w K mg base 3 "check_pair" ["left", "right"] spPair := by
  obtain ⟨fd, F⟩ := T.f_check_pair
  have sc := sc_check_pair
  refine okFN (F := F) T.g_check_pair F.kp (F.bindsN fun _ _ _ _ _ _ us hl => match us, hl with | [_, _], _ => rfl) sc sp2_len (fun cdv A outer s H vs Q E hr h => ?_)
  obtain ⟨u, v, rfl, h⟩ := h
  refine ⟨_, (pss_cons (ps_if (pt_not (pt_val (pe_f d_is_fraction (hr.mono (by decide)) rfl passL (pa_cons (pv 0) pa_nil)))) (pss_one ps_never) pss_nil)
      (pss_one (ps_if (pt_not (pt_val (pe_f d_is_fraction (hr.mono (by decide)) rfl passL (pa_cons (pv 1) pa_nil)))) (pss_one ps_never) pss_nil))), ?_⟩
  obtain ⟨x, y, hx, hy, h⟩ := h
  refine ⟨_, rfl, _, rfl, x, hx, true, rfl, iteF ?_⟩
  exact ⟨_, rfl, _, rfl, y, hy, true, rfl, iteF h⟩
def spVal : Sp := sp1 fun a H Q _ => ∃ x : Rat, FrV H a x ∧ Q .non H
abbrev N_check_value : List Str := ["value"]
theorem sc_check_value : FnScope N_check_value ["value"] (defScope S_check_value) := ⟨rfl, rfl, rfl, by decide +kernel, rfl, by decide +kernel, by decide +kernel⟩
theorem ok_check_value (T : Tx K mg) (d_is_fraction : Ok P w K mg base 2 "is_fraction" ["value"] spIsFr)  : Ok P w K mg base 3 "check_value" ["value"] spVal := by
  obtain ⟨fd, F⟩ := T.f_check_value
  have sc := sc_check_value
  refine okFN (F := F) T.g_check_value F.kp (F.bindsN fun _ _ _ _ _ _ us hl => match us, hl with | [_], _ => rfl) sc sp1_len (fun cdv A outer s H vs Q E hr h => ?_)
  obtain ⟨u, rfl, h⟩ := h
  refine ⟨_, (pss_one (ps_if (pt_not (pt_val (pe_f d_is_fraction (hr.mono (by decide)) rfl passL (pa_cons (pv 0) pa_nil)))) (pss_one ps_never) pss_nil)), ?_⟩
  obtain ⟨x, hx, h⟩ := h
  exact ⟨_, rfl, _, rfl, x, hx, true, rfl, iteF h⟩
/-! ### arithmetic -/
def spBin (f : Rat → Rat → Rat) (C : Rat → Rat → Prop) : Sp := sp2 fun a b H Q _ => ∃ x y : Rat, FrV H a x ∧ FrV H b y ∧ Big x ∧ Big y ∧ C x y ∧ ∀ p, H p = none → Q (.ref p) (upd H p (frO (f x y)))
theorem gcd_log {n d : Int} {k : Nat} (hd : d ≠ 0) (h : d.natAbs < 2 ^ k) (h0 : 0 < k) (hk : k ≤ 9000) : (Int.gcd n d).log2 < 9000 := by
  have : Int.gcd n d < 2 ^ k := Nat.lt_of_le_of_lt (Int.gcd_le_natAbs_right n hd) h
  exact Nat.lt_of_lt_of_le (PySem.Flt.log2_lt_of h0 this) hk
def noC : Rat → Rat → Prop := fun _ _ => True
abbrev N_plus : List Str := ["left", "right"]
theorem sc_plus : FnScope N_plus ["left", "right"] (defScope S_plus) := ⟨rfl, rfl, rfl, by decide +kernel, rfl, by decide +kernel, by decide +kernel⟩
theorem ok_plus (T : Tx K mg) (d_lowest : Ok P w K mg base 2 "lowest" ["numerator", "denominator"] spLow) (d_check_pair : Ok P w K mg base 3 "check_pair" ["left", "right"] spPair)  : Ok P w K mg base 4 "plus" ["left", "right"] (spBin (fun x y => x + y) noC) := by
  obtain ⟨fd, F⟩ := T.f_plus
  have sc := sc_plus
  refine okFN (F := F) T.g_plus F.kp (F.bindsN fun _ _ _ _ _ _ us hl => match us, hl with | [_, _], _ => rfl) sc sp2_len (fun cdv A outer s H vs Q E hr h => ?_)
  obtain ⟨u, v, rfl, h⟩ := h
  refine ⟨_, (pss_cons (ps_expr (pe_f d_check_pair (hr.mono (by decide)) rfl passL (pa_cons (pv 0) (pa_cons (pv 1) pa_nil))))
      (pss_one (ps_ret (pe_f d_lowest (hr.mono (by decide)) rfl passL (pa_cons (pe_op op_add (pe_op op_mulW (pe_ix ix_tup (pv 0) pe_int (fun _ _ => rfl)) (pe_ix ix_tup (pv 1) pe_int (fun _ _ => rfl))) (pe_op op_mulW (pe_ix ix_tup (pv 1) pe_int (fun _ _ => rfl)) (pe_ix ix_tup (pv 0) pe_int (fun _ _ => rfl)))) (pa_cons (pe_op op_mulW (pe_ix ix_tup (pv 0) pe_int (fun _ _ => rfl)) (pe_ix ix_tup (pv 1) pe_int (fun _ _ => rfl))) pa_nil)))))), ?_⟩
  obtain ⟨x, y, hx, hy, bx, by_, _, h⟩ := h
  refine ⟨_, rfl, _, rfl, _, _, rfl, x, y, hx, hy, ?_⟩
  obtain ⟨a, rfl, ha⟩ := hx
  obtain ⟨b, rfl, hb⟩ := hy
  simp only [add_divInt] at h
  exact ⟨_, rfl, _, _, _, _, rfl, rfl, sq2 ha, at_0, _, rfl, _, _, _, _, rfl, rfl, sq2 hb, at_1, _, _, rfl, rfl, cmul bx.1 by_.d,
    _, rfl, _, _, _, _, rfl, rfl, sq2 hb, at_0, _, rfl, _, _, _, _, rfl, rfl, sq2 ha, at_1, _, _, rfl, rfl, cmul by_.1 bx.d, _, _, rfl, rfl,
    _, rfl, _, _, _, _, rfl, rfl, sq2 ha, at_1, _, rfl, _, _, _, _, rfl, rfl, sq2 hb, at_1, _, _, rfl, rfl, cmul bx.d by_.d,
    _, _, rfl, _, _, rfl, rfl, dd_ne x y, gcd_log (dd_ne x y) (bx.rawD by_) (by decide) (by decide), h⟩
abbrev N_minus : List Str := ["left", "right"]
theorem sc_minus : FnScope N_minus ["left", "right"] (defScope S_minus) := ⟨rfl, rfl, rfl, by decide +kernel, rfl, by decide +kernel, by decide +kernel⟩
theorem ok_minus (T : Tx K mg) (d_lowest : Ok P w K mg base 2 "lowest" ["numerator", "denominator"] spLow) (d_check_pair : Ok P w K mg base 3 "check_pair" ["left", "right"] spPair)  : Ok P w K mg base 4 "minus" ["left", "right"] (spBin (fun x y => x - y) noC) := by
  obtain ⟨fd, F⟩ := T.f_minus
  have sc := sc_minus
  refine okFN (F := F) T.g_minus F.kp (F.bindsN fun _ _ _ _ _ _ us hl => match us, hl with | [_, _], _ => rfl) sc sp2_len (fun cdv A outer s H vs Q E hr h => ?_)
  obtain ⟨u, v, rfl, h⟩ := h
  refine ⟨_, (pss_cons (ps_expr (pe_f d_check_pair (hr.mono (by decide)) rfl passL (pa_cons (pv 0) (pa_cons (pv 1) pa_nil))))
      (pss_one (ps_ret (pe_f d_lowest (hr.mono (by decide)) rfl passL (pa_cons (pe_op op_sub (pe_op op_mulW (pe_ix ix_tup (pv 0) pe_int (fun _ _ => rfl)) (pe_ix ix_tup (pv 1) pe_int (fun _ _ => rfl))) (pe_op op_mulW (pe_ix ix_tup (pv 1) pe_int (fun _ _ => rfl)) (pe_ix ix_tup (pv 0) pe_int (fun _ _ => rfl)))) (pa_cons (pe_op op_mulW (pe_ix ix_tup (pv 0) pe_int (fun _ _ => rfl)) (pe_ix ix_tup (pv 1) pe_int (fun _ _ => rfl))) pa_nil)))))), ?_⟩
  obtain ⟨x, y, hx, hy, bx, by_, _, h⟩ := h
  refine ⟨_, rfl, _, rfl, _, _, rfl, x, y, hx, hy, ?_⟩
  obtain ⟨a, rfl, ha⟩ := hx
  obtain ⟨b, rfl, hb⟩ := hy
  simp only [sub_divInt] at h
  exact ⟨_, rfl, _, _, _, _, rfl, rfl, sq2 ha, at_0, _, rfl, _, _, _, _, rfl, rfl, sq2 hb, at_1, _, _, rfl, rfl, cmul bx.1 by_.d,
    _, rfl, _, _, _, _, rfl, rfl, sq2 hb, at_0, _, rfl, _, _, _, _, rfl, rfl, sq2 ha, at_1, _, _, rfl, rfl, cmul by_.1 bx.d, _, _, rfl, rfl,
    _, rfl, _, _, _, _, rfl, rfl, sq2 ha, at_1, _, rfl, _, _, _, _, rfl, rfl, sq2 hb, at_1, _, _, rfl, rfl, cmul bx.d by_.d,
    _, _, rfl, _, _, rfl, rfl, dd_ne x y, gcd_log (dd_ne x y) (bx.rawD by_) (by decide) (by decide), h⟩
abbrev N_times : List Str := ["left", "right"]
theorem sc_times : FnScope N_times ["left", "right"] (defScope S_times) := ⟨rfl, rfl, rfl, by decide +kernel, rfl, by decide +kernel, by decide +kernel⟩
theorem ok_times (T : Tx K mg) (d_lowest : Ok P w K mg base 2 "lowest" ["numerator", "denominator"] spLow) (d_check_pair : Ok P w K mg base 3 "check_pair" ["left", "right"] spPair)  : Ok P w K mg base 4 "times" ["left", "right"] (spBin (fun x y => x * y) noC) := by
  obtain ⟨fd, F⟩ := T.f_times
  have sc := sc_times
  refine okFN (F := F) T.g_times F.kp (F.bindsN fun _ _ _ _ _ _ us hl => match us, hl with | [_, _], _ => rfl) sc sp2_len (fun cdv A outer s H vs Q E hr h => ?_)
  obtain ⟨u, v, rfl, h⟩ := h
  refine ⟨_, (pss_cons (ps_expr (pe_f d_check_pair (hr.mono (by decide)) rfl passL (pa_cons (pv 0) (pa_cons (pv 1) pa_nil))))
      (pss_one (ps_ret (pe_f d_lowest (hr.mono (by decide)) rfl passL (pa_cons (pe_op op_mulW (pe_ix ix_tup (pv 0) pe_int (fun _ _ => rfl)) (pe_ix ix_tup (pv 1) pe_int (fun _ _ => rfl))) (pa_cons (pe_op op_mulW (pe_ix ix_tup (pv 0) pe_int (fun _ _ => rfl)) (pe_ix ix_tup (pv 1) pe_int (fun _ _ => rfl))) pa_nil)))))), ?_⟩
  obtain ⟨x, y, hx, hy, bx, by_, _, h⟩ := h
  refine ⟨_, rfl, _, rfl, _, _, rfl, x, y, hx, hy, ?_⟩
  obtain ⟨a, rfl, ha⟩ := hx
  obtain ⟨b, rfl, hb⟩ := hy
  simp only [mul_divInt] at h
  exact ⟨_, rfl, _, _, _, _, rfl, rfl, sq2 ha, at_0, _, rfl, _, _, _, _, rfl, rfl, sq2 hb, at_0, _, _, rfl, rfl, cmul bx.1 by_.1,
    _, rfl, _, _, _, _, rfl, rfl, sq2 ha, at_1, _, rfl, _, _, _, _, rfl, rfl, sq2 hb, at_1, _, _, rfl, rfl, cmul bx.d by_.d,
    _, _, rfl, _, _, rfl, rfl, dd_ne x y, gcd_log (dd_ne x y) (bx.rawD by_) (by decide) (by decide), h⟩
def nzC : Rat → Rat → Prop := fun _ y => y ≠ 0
abbrev N_over : List Str := ["left", "right"]
theorem sc_over : FnScope N_over ["left", "right"] (defScope S_over) := ⟨rfl, rfl, rfl, by decide +kernel, rfl, by decide +kernel, by decide +kernel⟩
theorem ok_over (T : Tx K mg) (d_lowest : Ok P w K mg base 2 "lowest" ["numerator", "denominator"] spLow) (d_check_pair : Ok P w K mg base 3 "check_pair" ["left", "right"] spPair)  : Ok P w K mg base 4 "over" ["left", "right"] (spBin (fun x y => x / y) nzC) := by
  obtain ⟨fd, F⟩ := T.f_over
  have sc := sc_over
  refine okFN (F := F) T.g_over F.kp (F.bindsN fun _ _ _ _ _ _ us hl => match us, hl with | [_, _], _ => rfl) sc sp2_len (fun cdv A outer s H vs Q E hr h => ?_)
  obtain ⟨u, v, rfl, h⟩ := h
  refine ⟨_, (pss_cons (ps_expr (pe_f d_check_pair (hr.mono (by decide)) rfl passL (pa_cons (pv 0) (pa_cons (pv 1) pa_nil))))
      (pss_cons (ps_if (pt_cmpR op_eq (pe_ix ix_tup (pv 1) pe_int (fun _ _ => rfl)) pe_int (nomark _)) (pss_one ps_never) pss_nil)
      (pss_one (ps_ret (pe_f d_lowest (hr.mono (by decide)) rfl passL (pa_cons (pe_op op_mulW (pe_ix ix_tup (pv 0) pe_int (fun _ _ => rfl)) (pe_ix ix_tup (pv 1) pe_int (fun _ _ => rfl))) (pa_cons (pe_op op_mulW (pe_ix ix_tup (pv 0) pe_int (fun _ _ => rfl)) (pe_ix ix_tup (pv 1) pe_int (fun _ _ => rfl))) pa_nil))))))), ?_⟩
  obtain ⟨x, y, hx, hy, bx, by_, ny, h⟩ := h
  have ny : y ≠ 0 := ny
  have nn : y.num ≠ 0 := fun e => ny (Rat.num_eq_zero.mp e)
  refine ⟨_, rfl, _, rfl, _, _, rfl, x, y, hx, hy, ?_⟩
  obtain ⟨a, rfl, ha⟩ := hx
  obtain ⟨b, rfl, hb⟩ := hy
  simp only [div_divInt] at h
  refine ⟨_, rfl, _, _, _, _, rfl, rfl, sq2 hb, at_0, rfl, _, rfl, ifEq (fun e => absurd e nn) (fun _ => ?_)⟩
  exact ⟨_, rfl, _, _, _, _, rfl, rfl, sq2 ha, at_0, _, rfl, _, _, _, _, rfl, rfl, sq2 hb, at_1, _, _, rfl, rfl, cmul bx.1 by_.d,
    _, rfl, _, _, _, _, rfl, rfl, sq2 ha, at_1, _, rfl, _, _, _, _, rfl, rfl, sq2 hb, at_0, _, _, rfl, rfl, cmul bx.d by_.1,
    _, _, rfl, _, _, rfl, rfl, dn_ne x ny, gcd_log (dn_ne x ny) (bx.rawR by_) (by decide) (by decide), h⟩
/-- -1, 0, 1 -/
def sgn (x y : Rat) : Int := if x < y then -1 else if y < x then 1 else 0
def spCmp : Sp := sp2 fun a b H Q _ => ∃ x y : Rat, FrV H a x ∧ FrV H b y ∧ Big x ∧ Big y ∧ Q (.int (sgn x y)) H
abbrev N_compare : List Str := ["left", "right", "difference"]
theorem sc_compare : FnScope N_compare ["left", "right"] (defScope S_compare) := ⟨rfl, rfl, rfl, by decide +kernel, rfl, by decide +kernel, by decide +kernel⟩
theorem ok_compare (T : Tx K mg) (d_check_pair : Ok P w K mg base 3 "check_pair" ["left", "right"] spPair)  : Ok P w K mg base 4 "compare" ["left", "right"] spCmp := by
  obtain ⟨fd, F⟩ := T.f_compare
  have sc := sc_compare
  refine okFN (F := F) T.g_compare F.kp (F.bindsN fun _ _ _ _ _ _ us hl => match us, hl with | [_, _], _ => rfl) sc sp2_len (fun cdv A outer s H vs Q E hr h => ?_)
  obtain ⟨u, v, rfl, h⟩ := h
  refine ⟨_, (pss_cons (ps_expr (pe_f d_check_pair (hr.mono (by decide)) rfl passL (pa_cons (pv 0) (pa_cons (pv 1) pa_nil))))
      (pss_cons (ps_set (i := 2) sc.nd rfl (Or.inl rfl) (pe_op op_sub (pe_op op_mulW (pe_ix ix_tup (pv 0) pe_int (fun _ _ => rfl)) (pe_ix ix_tup (pv 1) pe_int (fun _ _ => rfl))) (pe_op op_mulW (pe_ix ix_tup (pv 1) pe_int (fun _ _ => rfl)) (pe_ix ix_tup (pv 0) pe_int (fun _ _ => rfl)))))
      (pss_cons (ps_if (pt_cmpR op_lt (pv 2) pe_int (nomark _)) (pss_one (ps_ret (pe_un un_neg pe_int))) pss_nil)
      (pss_one (ps_ret (pe_ifExp (pt_cmpR op_gt (pv 2) pe_int (nomark _)) pe_int pe_int)))))), ?_⟩
  obtain ⟨x, y, hx, hy, bx, by_, h⟩ := h
  have l1 := Rat.lt_iff x y
  have l2 := Rat.lt_iff y x
  refine ⟨_, rfl, _, rfl, _, _, rfl, x, y, hx, hy, ?_⟩
  obtain ⟨a, rfl, ha⟩ := hx
  obtain ⟨b, rfl, hb⟩ := hy
  refine ⟨_, rfl, _, _, _, _, rfl, rfl, sq2 ha, at_0, _, rfl, _, _, _, _, rfl, rfl, sq2 hb, at_1, _, _, rfl, rfl, cmul bx.1 by_.d,
    _, rfl, _, _, _, _, rfl, rfl, sq2 hb, at_0, _, rfl, _, _, _, _, rfl, rfl, sq2 ha, at_1, _, _, rfl, rfl, cmul by_.1 bx.d, _, _, rfl, rfl, ?_⟩
  refine ⟨_, rfl, _, _, rfl, rfl, _, rfl, ifD (fun c => ?_) (fun c => ?_)⟩
  · have e : sgn x y = -1 := by unfold sgn; rw [if_pos (l1.mpr (by omega))]
    rw [e] at h
    exact ⟨_, rfl, h⟩
  · have n1 : ¬ x < y := fun z => c (by have := l1.mp z; omega)
    refine ⟨_, rfl, _, _, rfl, rfl, _, rfl, ifD (fun c2 => ?_) (fun c2 => ?_)⟩
    · have e : sgn x y = 1 := by unfold sgn; rw [if_neg n1, if_pos (l2.mpr (by omega))]
      rw [e] at h
      exact h
    · have e : sgn x y = 0 := by unfold sgn; rw [if_neg n1, if_neg (fun z => c2 (by have := l2.mp z; omega))]
      rw [e] at h
      exact h
def spFloor : Sp := sp1 fun a H Q _ => ∃ x : Rat, FrV H a x ∧ Big x ∧ Q (.int x.floor) H
theorem cdiv {i j : Int} {k : Nat} (h : 0 < j) (hj : j.natAbs < 2 ^ k) (h0 : 0 < k := by decide) (hk : k ≤ 9000 := by decide) : CDivW i j := wide_div h hj h0 hk
abbrev N_floor_of : List Str := ["value"]
theorem sc_floor_of : FnScope N_floor_of ["value"] (defScope S_floor_of) := ⟨rfl, rfl, rfl, by decide +kernel, rfl, by decide +kernel, by decide +kernel⟩
theorem ok_floor_of (T : Tx K mg) (d_check_value : Ok P w K mg base 3 "check_value" ["value"] spVal)  : Ok P w K mg base 4 "floor_of" ["value"] spFloor := by
  obtain ⟨fd, F⟩ := T.f_floor_of
  have sc := sc_floor_of
  refine okFN (F := F) T.g_floor_of F.kp (F.bindsN fun _ _ _ _ _ _ us hl => match us, hl with | [_], _ => rfl) sc sp1_len (fun cdv A outer s H vs Q E hr h => ?_)
  obtain ⟨u, rfl, h⟩ := h
  refine ⟨_, (pss_cons (ps_expr (pe_f d_check_value (hr.mono (by decide)) rfl passL (pa_cons (pv 0) pa_nil)))
      (pss_one (ps_ret (pe_op op_fdivW (pe_ix ix_tup (pv 0) pe_int (fun _ _ => rfl)) (pe_ix ix_tup (pv 0) pe_int (fun _ _ => rfl)))))), ?_⟩
  obtain ⟨x, hx, bx, h⟩ := h
  rw [Rat.floor_def] at h
  refine ⟨_, rfl, _, rfl, x, hx, ?_⟩
  obtain ⟨a, rfl, ha⟩ := hx
  exact ⟨_, rfl, _, _, _, _, rfl, rfl, sq2 ha, at_0, _, rfl, _, _, _, _, rfl, rfl, sq2 ha, at_1, _, _, rfl, rfl, cdiv (den_gt x) bx.d, h⟩
def spPart : Sp := sp1 fun a H Q _ => ∃ x : Rat, FrV H a x ∧ ∀ p, H p = none → Q (.ref p) (upd H p (frO (fr x)))
theorem frO_fr (x : Rat) : frO (fr x) = .tup [.int (x.num % (x.den : Int)), .int (x.den : Int)] := by
  show HO.tup [.int (fr x).num, .int ((fr x).den : Int)] = _
  rw [fr_num, fr_den]
abbrev N_part_of : List Str := ["value"]
theorem sc_part_of : FnScope N_part_of ["value"] (defScope S_part_of) := ⟨rfl, rfl, rfl, by decide +kernel, rfl, by decide +kernel, by decide +kernel⟩
theorem ok_part_of (T : Tx K mg) (d_check_value : Ok P w K mg base 3 "check_value" ["value"] spVal)  : Ok P w K mg base 4 "part_of" ["value"] spPart := by
  obtain ⟨fd, F⟩ := T.f_part_of
  have sc := sc_part_of
  refine okFN (F := F) T.g_part_of F.kp (F.bindsN fun _ _ _ _ _ _ us hl => match us, hl with | [_], _ => rfl) sc sp1_len (fun cdv A outer s H vs Q E hr h => ?_)
  obtain ⟨u, rfl, h⟩ := h
  refine ⟨_, (pss_cons (ps_expr (pe_f d_check_value (hr.mono (by decide)) rfl passL (pa_cons (pv 0) pa_nil)))
      (pss_one (ps_ret (pe_tup (pa_cons (pe_op op_mod (pe_ix ix_tup (pv 0) pe_int (fun _ _ => rfl)) (pe_ix ix_tup (pv 0) pe_int (fun _ _ => rfl))) (pa_cons (pe_ix ix_tup (pv 0) pe_int (fun _ _ => rfl)) pa_nil)))))), ?_⟩
  obtain ⟨x, hx, h⟩ := h
  rw [frO_fr] at h
  refine ⟨_, rfl, _, rfl, x, hx, ?_⟩
  obtain ⟨a, rfl, ha⟩ := hx
  exact ⟨_, rfl, _, _, _, _, rfl, rfl, sq2 ha, at_0, _, rfl, _, _, _, _, rfl, rfl, sq2 ha, at_1, _, _, rfl, rfl, den_gt x, _, rfl, _, _, _, _, rfl, rfl, sq2 ha, at_1, line2, h⟩
end
end Wk
set_option maxHeartbeats 4000000
namespace Wk
open PySem PySem.Spec PyProof.Rows L2
section
variable {P : Program} {w : World} {K : PySem.W.Frag} {mg : Str → Option Value} {base : Heap}
/-! ### the errors' __init__ -/
def spErr (K : PySem.W.Frag) (x f : Str) : Sp := sp2 fun s v H Q _ => ∃ a, s = .ref a ∧ H a = some (exo a (ga K x) none) ∧ ∀ dx, H dx = none → dx ≠ a → Q .non (upd (upd H dx (exd dx [(f, v)])) a (exo a (ga K x) (some dx)))
abbrev N_BadValue_init : List Str := ["self", "what"]
theorem sc_BadValue_init : FnScope N_BadValue_init ["self", "what"] (defScope S_BadValue_init) := ⟨rfl, rfl, rfl, by decide +kernel, rfl, by decide +kernel, by decide +kernel⟩
theorem ok_BadValue_init (T : Tx K mg)   : OkM P w K mg base 1 "BadValue" "__init__" ["self", "what"] (spErr K "BadValue" "what") := by
  obtain ⟨fd, F⟩ := T.f_BadValue_init
  have sc := sc_BadValue_init
  refine okMN (F := F)  (F.bindsN fun _ _ _ _ _ _ us hl => match us, hl with | [_, _], _ => rfl) sc sp2_len (fun cdv A outer s H vs Q E hr h => ?_)
  obtain ⟨u, v, rfl, h⟩ := h
  refine ⟨_, (pss_one (ps_ost (pv 0) (pv 1))), ?_⟩
  obtain ⟨a, rfl, ha, h⟩ := h
  exact ⟨_, rfl, _, rfl, a, _, rfl, T.o_BadValue, T.n_BadValue_what, .inl ⟨ha, h⟩⟩
abbrev N_TooMany_init : List Str := ["self", "limit"]
theorem sc_TooMany_init : FnScope N_TooMany_init ["self", "limit"] (defScope S_TooMany_init) := ⟨rfl, rfl, rfl, by decide +kernel, rfl, by decide +kernel, by decide +kernel⟩
theorem ok_TooMany_init (T : Tx K mg)   : OkM P w K mg base 1 "TooMany" "__init__" ["self", "limit"] (spErr K "TooMany" "limit") := by
  obtain ⟨fd, F⟩ := T.f_TooMany_init
  have sc := sc_TooMany_init
  refine okMN (F := F)  (F.bindsN fun _ _ _ _ _ _ us hl => match us, hl with | [_, _], _ => rfl) sc sp2_len (fun cdv A outer s H vs Q E hr h => ?_)
  obtain ⟨u, v, rfl, h⟩ := h
  refine ⟨_, (pss_one (ps_ost (pv 0) (pv 1))), ?_⟩
  obtain ⟨a, rfl, ha, h⟩ := h
  exact ⟨_, rfl, _, rfl, a, _, rfl, T.o_TooMany, T.n_TooMany_limit, .inl ⟨ha, h⟩⟩
abbrev N_NoName_init : List Str := ["self", "name"]
theorem sc_NoName_init : FnScope N_NoName_init ["self", "name"] (defScope S_NoName_init) := ⟨rfl, rfl, rfl, by decide +kernel, rfl, by decide +kernel, by decide +kernel⟩
theorem ok_NoName_init (T : Tx K mg)   : OkM P w K mg base 1 "NoName" "__init__" ["self", "name"] (spErr K "NoName" "name") := by
  obtain ⟨fd, F⟩ := T.f_NoName_init
  have sc := sc_NoName_init
  refine okMN (F := F)  (F.bindsN fun _ _ _ _ _ _ us hl => match us, hl with | [_, _], _ => rfl) sc sp2_len (fun cdv A outer s H vs Q E hr h => ?_)
  obtain ⟨u, v, rfl, h⟩ := h
  refine ⟨_, (pss_one (ps_ost (pv 0) (pv 1))), ?_⟩
  obtain ⟨a, rfl, ha, h⟩ := h
  exact ⟨_, rfl, _, rfl, a, _, rfl, T.o_NoName, T.n_NoName_name, .inl ⟨ha, h⟩⟩
/-- X(v) is raised -/
def Rz (K : PySem.W.Frag) (x f : Str) (v : V) (H : Hp) (E : XK) : Prop := ∀ dd H', Same H H' → H' dd = some (.xd [(f, v)]) → E (.ref (ga K x)) (some dd) H'
/-- the raise's reading, its argument read -/
theorem rz_of {x f : Str} {v : V} {H : Hp} {Ek : XK} (h : Rz K x f v H Ek) : ([v] : List V).length ≤ 1000 ∧ ∀ a, H a = none → spErr K x f (.ref a :: ([v] ++ [])) (upd H a (exo a (ga K x) none))
    (fun r H2 => r = .non ∧ ∃ (d : Addr) (fs : List (Str × V)), H2 a = some (exo a (ga K x) (some d)) ∧ H2 d = some (exd d fs) ∧ H d = none ∧ Ek (.ref (ga K x)) (some d) (upd (del H2 a) d (.xd fs))) (fun _ _ _ => False) := by
  refine ⟨by simp, fun a ha => ⟨_, _, rfl, a, rfl, upd_same, fun dx hd hne => ⟨rfl, dx, _, upd_same, ?_, ?_, h dx _ (fun b u e => ?_) upd_same⟩⟩⟩
  · rw [upd_ne hne]; exact upd_same
  · rw [upd_ne hne] at hd; exact hd
  · have n1 : b ≠ dx := by
      rintro rfl
      rw [upd_ne hne] at hd
      rw [e] at hd; cases hd
    have n2 : b ≠ a := ne_of_none e ha
    rw [upd_ne n1, del_ne n2, upd_ne n2, upd_ne n1, upd_ne n2]
    exact e
/-- a new object, the heap grown -/
def Gv (H : Hp) (o : HO) (Q : VK) : Prop := ∀ p H', Same H H' → H' p = some o → Q (.ref p) H'
theorem Gv.at {H H1 : Hp} {o : HO} {Q : VK} (g : Gv H o Q) (s : Same H H1) {p : Addr} (h : H1 p = none) : Q (.ref p) (upd H1 p o) := g p _ (Same.new s h) upd_same
theorem line3 : (3 : Nat) ≤ sizeLine := by decide
/-! ### weighted_divisor -/
def spWd : Sp := sp2 fun a b H Q _ => ∃ i j : Int, a = .int i ∧ b = .int j ∧ 0 ≤ i ∧ i.natAbs < 2 ^ 4400 ∧ j.natAbs < 2 ^ 4400 ∧
  ∀ x y : Int, x * i + y * j = (Int.gcd i j : Nat) → x.natAbs ≤ j.natAbs + 1 → y.natAbs ≤ i.natAbs + 1 → Gv H (.tup [.int ((Int.gcd i j : Nat) : Int), .int x, .int y]) Q
/-- the loop's state: now, after, x, next_x, y, next_y for i and r = |j| -/
structure Wd (i r : Int) (now after x nx y ny : Int) : Prop where
  n0 : 0 ≤ now
  a0 : 0 ≤ after
  gcd : Int.gcd now after = Int.gcd i r
  e1 : x * i + y * r = now
  e2 : nx * i + ny * r = after
  bx : x.natAbs * after.natAbs + nx.natAbs * now.natAbs ≤ r.natAbs
  by_ : y.natAbs * after.natAbs + ny.natAbs * now.natAbs ≤ i.natAbs
  cx : x.natAbs ≤ r.natAbs + 1
  cnx : nx.natAbs ≤ r.natAbs + 1
  cy : y.natAbs ≤ i.natAbs + 1
  cny : ny.natAbs ≤ i.natAbs + 1
  cn : now ≤ i + r
  ca : after ≤ i + r
theorem wd_start {i r : Int} (hi : 0 ≤ i) (hr : 0 ≤ r) : Wd i r i r 1 0 0 1 := ⟨hi, hr, rfl, by omega, by omega, by simp, by simp, by simp, by simp, by simp, by simp, by omega, by omega⟩
theorem nb {x q nx : Int} (hq : 0 ≤ q) : (x - q * nx).natAbs ≤ x.natAbs + q.natAbs * nx.natAbs := by
  have h : (q * nx).natAbs = q.natAbs * nx.natAbs := Int.natAbs_mul q nx
  omega
theorem wd_bound {x nx q now after : Int} {r : Nat} (h0 : 0 < after) (hn : 0 ≤ now) (hq : q = now / after) (h : x.natAbs * after.natAbs + nx.natAbs * now.natAbs ≤ r) :
    nx.natAbs * (now - q * after).natAbs + (x - q * nx).natAbs * after.natAbs ≤ r := by
  have q0 : 0 ≤ q := by subst hq; exact Int.ediv_nonneg hn (by omega)
  have r0 : 0 ≤ now - q * after := by
    have := Int.emod_nonneg now (show after ≠ 0 by omega)
    have e := Int.mul_ediv_add_emod now after
    subst hq
    rw [Int.mul_comm] at e
    omega
  have e : (now - q * after).natAbs + q.natAbs * after.natAbs = now.natAbs := by
    have h2 : (q * after).natAbs = q.natAbs * after.natAbs := Int.natAbs_mul q after
    have h3 : 0 ≤ q * after := Int.mul_nonneg q0 (by omega)
    omega
  have b := nb (x := x) (nx := nx) q0
  refine Nat.le_trans (Nat.add_le_add_left (Nat.mul_le_mul_right _ b) _) ?_
  refine Nat.le_trans (Nat.le_of_eq ?_) h
  rw [← e]
  grind
theorem wd_step {i r now after x nx y ny : Int} (W : Wd i r now after x nx y ny) (h : after ≠ 0) :
    Wd i r after (now - now / after * after) nx (x - now / after * nx) ny (y - now / after * ny) := by
  have hp : 0 < after := by have := W.a0; omega
  have h1 := Int.emod_nonneg now h
  have h2 := Int.emod_lt_of_pos now hp
  have e : now - now / after * after = now % after := by
    have := Int.mul_ediv_add_emod now after
    rw [Int.mul_comm] at this
    omega
  have bx := wd_bound hp W.n0 rfl W.bx
  have by_ := wd_bound hp W.n0 rfl W.by_
  have key : ∀ {z r : Nat} {a b : Nat}, a * b + z * after.natAbs ≤ r → z ≤ r + 1 := fun {z r a b} q => by
    have : z * 1 ≤ z * after.natAbs := Nat.mul_le_mul_left _ (by omega)
    omega
  refine ⟨W.a0, by omega, ?_, W.e2, ?_, bx, by_, W.cnx, key bx, W.cny, key by_, W.ca, ?_⟩
  · rw [e, ← W.gcd]; exact gcd_step now after
  · have e1 := W.e1
    have e2 := W.e2
    grind
  · have := W.ca; omega
theorem wd_end {i j now x nx y ny : Int} (W : Wd i (j.natAbs : Int) now 0 x nx y ny) : now = ((Int.gcd i j : Nat) : Int) ∧ x * i + (if j < 0 then -1 else 1) * y * j = ((Int.gcd i j : Nat) : Int) ∧ x.natAbs ≤ j.natAbs + 1 ∧ ((if j < 0 then -1 else 1) * y).natAbs ≤ i.natAbs + 1 := by
  have g := W.gcd
  rw [Int.gcd_zero] at g
  have hg : Int.gcd i (j.natAbs : Int) = Int.gcd i j := by simp [Int.gcd]
  have n : now = ((Int.gcd i j : Nat) : Int) := by have := W.n0; omega
  refine ⟨n, ?_, by have := W.cx; simpa using this, ?_⟩
  · rw [← n, ← W.e1]
    have : (j.natAbs : Int) = if j < 0 then -j else j := by split <;> omega
    rw [this]
    split <;> grind
  · have := W.cy
    split <;> simpa using this
theorem small4 {z : Int} {k : Int} (h : 0 ≤ z) (hz : z ≤ k) (hk : k.natAbs < 2 ^ 4401) : z.natAbs < 2 ^ 4402 := by
  have : (2 : Nat) ^ 4401 < 2 ^ 4402 := Nat.pow_lt_pow_right (by decide) (by decide)
  omega
theorem sum4 {i j : Int} (hi : i.natAbs < 2 ^ 4400) (hj : j.natAbs < 2 ^ 4400) : (i + (j.natAbs : Int)).natAbs < 2 ^ 4401 := by
  have e : (2 : Nat) ^ 4401 = 2 ^ 4400 + 2 ^ 4400 := by rw [Nat.pow_succ, Nat.mul_two]
  omega
theorem near4 {x j : Int} (h : x.natAbs ≤ j.natAbs + 1) (hj : j.natAbs < 2 ^ 4400) : x.natAbs < 2 ^ 4402 := by
  have e : (2 : Nat) ^ 4402 = 2 ^ 4401 + 2 ^ 4401 := by rw [Nat.pow_succ, Nat.mul_two]
  have e2 : (2 : Nat) ^ 4401 = 2 ^ 4400 + 2 ^ 4400 := by rw [Nat.pow_succ, Nat.mul_two]
  have : 0 < (2 : Nat) ^ 4400 := Nat.two_pow_pos _
  omega
theorem quo4 {now after k : Int} (h0 : 0 ≤ now) (hn : now ≤ k) (ha : 0 < after) (hk : k.natAbs < 2 ^ 4401) : (now / after).natAbs < 2 ^ 4402 := by
  have h1 : 0 ≤ now / after := Int.ediv_nonneg h0 (by omega)
  have h2 : now / after ≤ now := Int.ediv_le_self _ h0
  exact small4 h1 (by omega) hk
theorem nabs (j : Int) : (if j < 0 then -j else j) = (j.natAbs : Int) := by split <;> omega
/-- the loop's states -/
def WdW (i j : Int) (s : Int) (H : Hp) : Nat → L2.St → Hp → Prop := fun m σ H' => Same H H' ∧ ∃ now after x nx y ny o, σ = [some (.int i), some (.int j), some (.int s), some (.int now), some (.int after), some (.int x), some (.int nx), some (.int y), some (.int ny), o] ∧ Wd i (j.natAbs : Int) now after x nx y ny ∧ m = after.toNat
theorem sq2i {K : PySem.W.Frag} {H : Hp} {p : Addr} {xs : List V} : SqT K (upd H p (.tup xs)) p xs := SqT.of upd_same
abbrev N_weighted_divisor : List Str := ["left", "right", "sign", "now", "after", "x", "next_x", "y", "next_y", "quotient"]
theorem sc_weighted_divisor : FnScope N_weighted_divisor ["left", "right"] (defScope S_weighted_divisor) := ⟨rfl, rfl, rfl, by decide +kernel, rfl, by decide +kernel, by decide +kernel⟩
theorem ok_weighted_divisor (T : Tx K mg)   : Ok P w K mg base 1 "weighted_divisor" ["left", "right"] spWd := by
  obtain ⟨fd, F⟩ := T.f_weighted_divisor
  have sc := sc_weighted_divisor
  refine okFN (F := F) T.g_weighted_divisor F.kp (F.bindsN fun _ _ _ _ _ _ us hl => match us, hl with | [_, _], _ => rfl) sc sp2_len (fun cdv A outer s H vs Q E hr h => ?_)
  obtain ⟨u, v, rfl, h⟩ := h
  refine ⟨_, (pss_cons (ps_set (i := 2) sc.nd rfl (Or.inl rfl) (pe_ifExp (pt_cmpR op_lt (pv 1) pe_int (nomark _)) (pe_un un_neg pe_int) pe_int))
      (pss_cons (ps_par (i := 3) (j := 4) rfl sc.nd rfl rfl (by decide) rfl rfl (pa_cons (pv 0) (pa_cons (pe_callB call_abs (by rfl) T.b_abs (by decide +kernel) (pa_cons (pv 1) pa_nil)) pa_nil)) (by rfl))
      (pss_cons (ps_asg (pe_tup (pa_cons pe_int (pa_cons pe_int pa_nil))) (pg_tup rfl (pgs_cons (pg_name (i := 5) sc.nd rfl (Or.inl rfl)) (pgs_cons (pg_name (i := 6) sc.nd rfl (Or.inl rfl)) pgs_nil))))
      (pss_cons (ps_asg (pe_tup (pa_cons pe_int (pa_cons pe_int pa_nil))) (pg_tup rfl (pgs_cons (pg_name (i := 7) sc.nd rfl (Or.inl rfl)) (pgs_cons (pg_name (i := 8) sc.nd rfl (Or.inl rfl)) pgs_nil))))
      (pss_cons (ps_while PassesOwn.never (pt_cmpR op_ne (pv 4) pe_int (nomark _)) (pss_cons (ps_set (i := 9) sc.nd rfl (Or.inl rfl) (pe_op op_fdivW (pv 3) (pv 4)))
      (pss_cons (ps_par (i := 3) (j := 4) rfl sc.nd rfl rfl (by decide) rfl rfl (pa_cons (pv 4) (pa_cons (pe_op op_sub (pv 3) (pe_op op_mulW (pv 9) (pv 4))) pa_nil)) (by rfl))
      (pss_cons (ps_par (i := 5) (j := 6) rfl sc.nd rfl rfl (by decide) rfl rfl (pa_cons (pv 6) (pa_cons (pe_op op_sub (pv 5) (pe_op op_mulW (pv 9) (pv 6))) pa_nil)) (by rfl))
      (pss_one (ps_par (i := 7) (j := 8) rfl sc.nd rfl rfl (by decide) rfl rfl (pa_cons (pv 8) (pa_cons (pe_op op_sub (pv 7) (pe_op op_mulW (pv 9) (pv 8))) pa_nil)) (by rfl)))))))
      (pss_one (ps_ret (pe_tup (pa_cons (pv 3) (pa_cons (pv 5) (pa_cons (pe_op op_mulW (pv 2) (pv 7)) pa_nil))))))))))), ?_⟩
  obtain ⟨i, j, rfl, rfl, hi, bi, bj, h⟩ := h
  have s4 := sum4 bi bj
  have hend : ∀ now x nx y ny : Int, Wd i (j.natAbs : Int) now 0 x nx y ny → Gv H (.tup [.int now, .int x, .int ((if j < 0 then -1 else 1) * y)]) Q := by
    intro now x nx y ny W
    obtain ⟨h1, h2, h3, h4⟩ := wd_end W
    subst h1
    exact h x _ h2 h3 h4
  have start : Wd i (j.natAbs : Int) i (if j < 0 then -j else j) 1 0 0 1 := by
    rw [nabs j]
    exact wd_start hi (by omega)
  have bi2 : i.natAbs < 2 ^ 4402 := near4 (x := i) (j := i) (by omega) bi
  refine ⟨_, rfl, _, _, rfl, rfl, _, rfl, ifD (fun hj => ?_) (fun hj => ?_)⟩
  · have hs : (if j < 0 then (-1 : Int) else 1) = -1 := if_pos hj
    have bs : ((-1 : Int)).natAbs < 2 ^ 1 := by decide
    rw [hs] at hend
    refine ⟨_, rfl, ?_⟩
    refine ⟨_, rfl, _, rfl, _, rfl, _, _, rfl, ?_⟩
    refine ⟨by decide, fun p hp => ⟨p, _, rfl, sq2i, rfl, _, _, rfl, _, _, rfl, rfl, ?_⟩⟩
    refine ⟨by decide, fun q hq => ⟨q, _, rfl, sq2i, rfl, _, _, rfl, _, _, rfl, rfl, ?_⟩⟩
    refine ⟨WdW i j _ H, ⟨_, Same.new (same_new hp) hq, _, _, _, _, _, _, _, rfl, start, rfl⟩, ?_⟩
    rintro m σ H' ⟨sm, now, after, x, nx, y, ny, o, rfl, W, rfl⟩
    refine ⟨_, rfl, rfl, _, rfl, ifNe (fun hne => ?_) (fun he => ?_)⟩
    · have hp : 0 < after := by have := W.a0; omega
      have ba : after.natAbs < 2 ^ 4402 := small4 W.a0 W.ca s4
      have bn : now.natAbs < 2 ^ 4402 := small4 W.n0 W.cn s4
      have bq := quo4 W.n0 W.cn hp s4
      have bx : nx.natAbs < 2 ^ 4402 := near4 (by simpa using W.cnx) bj
      have by_ : ny.natAbs < 2 ^ 4402 := near4 W.cny bi
      refine ⟨fun σ' H' => ∃ m', m' < after.toNat ∧ WdW i j _ H m' σ' H', fun _ _ z => z, ?_⟩
      refine ⟨_, rfl, _, rfl, _, _, rfl, rfl, cdiv hp ba, ?_⟩
      refine ⟨_, rfl, _, rfl, _, rfl, _, rfl, _, _, rfl, rfl, cmul bq ba, _, _, rfl, rfl, _, _, rfl, ?_⟩
      refine ⟨_, rfl, _, rfl, _, rfl, _, rfl, _, _, rfl, rfl, cmul bq bx, _, _, rfl, rfl, _, _, rfl, ?_⟩
      refine ⟨_, rfl, _, rfl, _, rfl, _, rfl, _, _, rfl, rfl, cmul bq by_, _, _, rfl, rfl, _, _, rfl, ?_⟩
      have W2 := wd_step W hne
      have lt : (now - now / after * after) < after := by
        have := Int.mul_ediv_add_emod now after
        have h2 := Int.emod_lt_of_pos now hp
        rw [Int.mul_comm] at this
        omega
      exact ⟨(now - now / after * after).toNat, by have := W2.a0; omega, sm, _, _, _, _, _, _, _, rfl, W2, rfl⟩
    · subst he
      have by_ : y.natAbs < 2 ^ 4402 := near4 W.cy bi
      exact ⟨_, rfl, _, rfl, _, rfl, _, rfl, _, _, rfl, rfl, cmul bs by_, line3, fun p hp => (hend _ _ _ _ _ W).at sm hp⟩
  · have hs : (if j < 0 then (-1 : Int) else 1) = 1 := if_neg hj
    have bs : ((1 : Int)).natAbs < 2 ^ 1 := by decide
    rw [hs] at hend
    refine ⟨_, rfl, _, rfl, _, rfl, _, _, rfl, ?_⟩
    refine ⟨by decide, fun p hp => ⟨p, _, rfl, sq2i, rfl, _, _, rfl, _, _, rfl, rfl, ?_⟩⟩
    refine ⟨by decide, fun q hq => ⟨q, _, rfl, sq2i, rfl, _, _, rfl, _, _, rfl, rfl, ?_⟩⟩
    refine ⟨WdW i j _ H, ⟨_, Same.new (same_new hp) hq, _, _, _, _, _, _, _, rfl, start, rfl⟩, ?_⟩
    rintro m σ H' ⟨sm, now, after, x, nx, y, ny, o, rfl, W, rfl⟩
    refine ⟨_, rfl, rfl, _, rfl, ifNe (fun hne => ?_) (fun he => ?_)⟩
    · have hp : 0 < after := by have := W.a0; omega
      have ba : after.natAbs < 2 ^ 4402 := small4 W.a0 W.ca s4
      have bn : now.natAbs < 2 ^ 4402 := small4 W.n0 W.cn s4
      have bq := quo4 W.n0 W.cn hp s4
      have bx : nx.natAbs < 2 ^ 4402 := near4 (by simpa using W.cnx) bj
      have by_ : ny.natAbs < 2 ^ 4402 := near4 W.cny bi
      refine ⟨fun σ' H' => ∃ m', m' < after.toNat ∧ WdW i j _ H m' σ' H', fun _ _ z => z, ?_⟩
      refine ⟨_, rfl, _, rfl, _, _, rfl, rfl, cdiv hp ba, ?_⟩
      refine ⟨_, rfl, _, rfl, _, rfl, _, rfl, _, _, rfl, rfl, cmul bq ba, _, _, rfl, rfl, _, _, rfl, ?_⟩
      refine ⟨_, rfl, _, rfl, _, rfl, _, rfl, _, _, rfl, rfl, cmul bq bx, _, _, rfl, rfl, _, _, rfl, ?_⟩
      refine ⟨_, rfl, _, rfl, _, rfl, _, rfl, _, _, rfl, rfl, cmul bq by_, _, _, rfl, rfl, _, _, rfl, ?_⟩
      have W2 := wd_step W hne
      have lt : (now - now / after * after) < after := by
        have := Int.mul_ediv_add_emod now after
        have h2 := Int.emod_lt_of_pos now hp
        rw [Int.mul_comm] at this
        omega
      exact ⟨(now - now / after * after).toNat, by have := W2.a0; omega, sm, _, _, _, _, _, _, _, rfl, W2, rfl⟩
    · subst he
      have by_ : y.natAbs < 2 ^ 4402 := near4 W.cy bi
      exact ⟨_, rfl, _, rfl, _, rfl, _, rfl, _, _, rfl, rfl, cmul bs by_, line3, fun p hp => (hend _ _ _ _ _ W).at sm hp⟩
end
end Wk
set_option maxHeartbeats 4000000
namespace Wk
open PySem PySem.Spec PyProof.Rows L2
section
variable {P : Program} {w : World} {K : PySem.W.Frag} {mg : Str → Option Value} {base : Heap}
/-! ### joint_measure -/
structure JM (g v g' : Rat) (x y : Int) : Prop where
  nn : 0 ≤ g'
  sum : g' = (x : Rat) * g + (y : Rat) * v
  m1 : ∃ c : Int, g = (c : Rat) * g'
  m2 : ∃ c : Int, v = (c : Rat) * g'
def jC (g v : Rat) : Int := (g.den : Int) / ((Int.gcd g.den v.den : Nat) : Int) * (v.den : Int)
theorem jG_pos (g v : Rat) : 0 < ((Int.gcd g.den v.den : Nat) : Int) := gcd_pos (den_ne v)
theorem jC1 (g v : Rat) : jC g v = (g.den : Int) * ((v.den : Int) / ((Int.gcd g.den v.den : Nat) : Int)) := by
  unfold jC
  have h1 : ((Int.gcd g.den v.den : Nat) : Int) ∣ (g.den : Int) := Int.gcd_dvd_left ..
  have h2 : ((Int.gcd g.den v.den : Nat) : Int) ∣ (v.den : Int) := Int.gcd_dvd_right ..
  obtain ⟨a, ha⟩ := h1
  obtain ⟨b, hb⟩ := h2
  have p := jG_pos g v
  generalize ((Int.gcd g.den v.den : Nat) : Int) = G at *
  rw [hb, ha, Int.mul_ediv_cancel_left _ (show G ≠ 0 by omega), Int.mul_ediv_cancel_left _ (show G ≠ 0 by omega)]
  grind
theorem jC_pos (g v : Rat) : 0 < jC g v := by
  have p := jG_pos g v
  have h1 : ((Int.gcd g.den v.den : Nat) : Int) ≤ (g.den : Int) := Int.le_of_dvd (den_gt g) (Int.gcd_dvd_left ..)
  exact Int.mul_pos (Int.ediv_pos_of_pos_of_dvd (den_gt g) (by omega) (Int.gcd_dvd_left ..)) (den_gt v)
theorem jCg (g v : Rat) : jC g v / (g.den : Int) = (v.den : Int) / ((Int.gcd g.den v.den : Nat) : Int) := by
  rw [jC1, Int.mul_ediv_cancel_left _ (den_ne g)]
theorem jCv (g v : Rat) : jC g v / (v.den : Int) = (g.den : Int) / ((Int.gcd g.den v.den : Nat) : Int) := by
  unfold jC
  rw [Int.mul_ediv_cancel _ (den_ne v)]
theorem scale_eq {g : Rat} {C : Int} (h : (g.den : Int) ∣ C) : g * (C : Rat) = ((g.num * (C / (g.den : Int)) : Int) : Rat) := by
  obtain ⟨k, rfl⟩ := h
  rw [Int.mul_ediv_cancel_left _ (den_ne g)]
  have := times_den g
  push_cast
  grind
def jL (g v : Rat) : Int := g.num * (jC g v / (g.den : Int))
def jR (g v : Rat) : Int := v.num * (jC g v / (v.den : Int))
theorem jm_of {g v : Rat} {x y : Int} (h : x * jL g v + y * jR g v = ((Int.gcd (jL g v) (jR g v) : Nat) : Int)) : JM g v (Rat.divInt ((Int.gcd (jL g v) (jR g v) : Nat) : Int) (jC g v)) x y := by
  have cp := jC_pos g v
  have c0 : ((jC g v : Int) : Rat) ≠ 0 := by
    intro e
    have := Rat.intCast_inj.mp (e.trans (Rat.intCast_zero).symm)
    omega
  have e1 : g * ((jC g v : Int) : Rat) = ((jL g v : Int) : Rat) := scale_eq ⟨_, jC1 g v⟩
  have e2 : v * ((jC g v : Int) : Rat) = ((jR g v : Int) : Rat) := scale_eq (by unfold jC; exact Int.dvd_mul_left ..)
  have d1 : ((Int.gcd (jL g v) (jR g v) : Nat) : Int) ∣ jL g v := Int.gcd_dvd_left ..
  have d2 : ((Int.gcd (jL g v) (jR g v) : Nat) : Int) ∣ jR g v := Int.gcd_dvd_right ..
  have n0 : 0 ≤ ((Int.gcd (jL g v) (jR g v) : Nat) : Int) := by omega
  generalize ((Int.gcd (jL g v) (jR g v) : Nat) : Int) = D at *
  generalize jL g v = L at *
  generalize jR g v = R at *
  have eg : Rat.divInt D (jC g v) * ((jC g v : Int) : Rat) = (D : Rat) := by
    rw [Rat.divInt_eq_div]
    exact Rat.div_mul_cancel c0
  have can : ∀ {a b : Rat}, a * ((jC g v : Int) : Rat) = b * ((jC g v : Int) : Rat) → a = b := fun {a b} z => by
    have : (a - b) * ((jC g v : Int) : Rat) = 0 := by grind
    rcases Rat.mul_eq_zero.mp this with q | q
    · grind
    · exact absurd q c0
  refine ⟨?_, can ?_, ?_, ?_⟩
  · exact (Rat.divInt_nonneg_iff_of_pos_right cp).mpr n0
  · rw [eg, ← h]
    push_cast
    grind
  · obtain ⟨c, hc⟩ := d1
    refine ⟨c, can ?_⟩
    rw [e1, hc]
    push_cast
    grind
  · obtain ⟨c, hc⟩ := d2
    refine ⟨c, can ?_⟩
    rw [e2, hc]
    push_cast
    grind
theorem ediv_lt {a G : Int} {n : Nat} (h : a.natAbs < 2 ^ n) (h0 : 0 ≤ a) (hG : 0 ≤ G) : (a / G).natAbs < 2 ^ n := by
  have h1 : 0 ≤ a / G := Int.ediv_nonneg h0 hG
  have h2 : a / G ≤ a := Int.ediv_le_self _ h0
  omega
section
variable {g v : Rat} {n m : Nat}
theorem jC_lt (hg : Sz n g) (hv : Sz m v) : (jC g v).natAbs < 2 ^ (n + m) := lt_mul (ediv_lt hg.d (Int.natCast_nonneg _) (by omega)) hv.d
theorem jL_lt (hg : Sz n g) (hv : Sz m v) : (jL g v).natAbs < 2 ^ (n + m) := by
  unfold jL
  rw [jCg]
  exact lt_mul hg.1 (ediv_lt hv.d (Int.natCast_nonneg _) (by omega))
theorem jR_lt (hg : Sz n g) (hv : Sz m v) : (jR g v).natAbs < 2 ^ (n + m) := by
  unfold jR
  rw [jCv, Nat.add_comm]
  exact lt_mul hv.1 (ediv_lt hg.d (Int.natCast_nonneg _) (by omega))
theorem jD_lt (hg : Sz n g) (hv : Sz m v) : (((Int.gcd (jL g v) (jR g v) : Nat) : Int)).natAbs < 2 ^ (n + m) := by
  by_cases h : jR g v = 0
  · rw [h, Int.gcd_zero]; exact jL_lt hg hv
  · exact Nat.lt_of_le_of_lt (Int.gcd_le_natAbs_right _ h) (jR_lt hg hv)
theorem two_lt {a : Int} {b : Int} {k : Nat} (h : a.natAbs ≤ b.natAbs + 1) (hb : b.natAbs < 2 ^ k) : a.natAbs < 2 ^ (k + 1) := by
  rw [Nat.pow_succ]
  have : 0 < 2 ^ k := Nat.two_pow_pos _
  omega
end
def spJm : Sp := sp2 fun a b H Q _ => ∃ (g v : Rat) (n m : Nat), FrV H a g ∧ FrV H b v ∧ Sz n g ∧ Sz m v ∧ 0 < m ∧ 0 < n ∧ n + m ≤ 4300 ∧ 0 ≤ g ∧
  ∀ (g' : Rat) (x y : Int), JM g v g' x y → Sz (n + m) g' → x.natAbs < 2 ^ (n + m + 1) → y.natAbs < 2 ^ (n + m + 1) → ∀ p q H', Same H H' → H' p = some (frO g') → H' q = some (.tup [.ref p, .int x, .int y]) → Q (.ref q) H'
theorem upto {i : Int} {k : Nat} (h : i.natAbs < 2 ^ k) (hk : k ≤ 4400) : i.natAbs < 2 ^ 4400 := lt_mono h hk
abbrev N_joint_measure : List Str := ["left", "right", "common", "divisor", "x", "y"]
theorem sc_joint_measure : FnScope N_joint_measure ["left", "right"] (defScope S_joint_measure) := ⟨rfl, rfl, rfl, by decide +kernel, rfl, by decide +kernel, by decide +kernel⟩
theorem ok_joint_measure (T : Tx K mg) (d_lowest : Ok P w K mg base 2 "lowest" ["numerator", "denominator"] spLow) (d_weighted_divisor : Ok P w K mg base 1 "weighted_divisor" ["left", "right"] spWd) (d_common_divisor : Ok P w K mg base 1 "common_divisor" ["left", "right"] spGcd)  : Ok P w K mg base 3 "joint_measure" ["left", "right"] spJm := by
  obtain ⟨fd, F⟩ := T.f_joint_measure
  have sc := sc_joint_measure
  refine okFN (F := F) T.g_joint_measure F.kp (F.bindsN fun _ _ _ _ _ _ us hl => match us, hl with | [_, _], _ => rfl) sc sp2_len (fun cdv A outer s H vs Q E hr h => ?_)
  obtain ⟨u, v, rfl, h⟩ := h
  refine ⟨_, (pss_cons (ps_set (i := 2) sc.nd rfl (Or.inl rfl) (pe_op op_mulW (pe_op op_fdivW (pe_ix ix_tup (pv 0) pe_int (fun _ _ => rfl)) (pe_f d_common_divisor (hr.mono (by decide)) rfl passL (pa_cons (pe_ix ix_tup (pv 0) pe_int (fun _ _ => rfl)) (pa_cons (pe_ix ix_tup (pv 1) pe_int (fun _ _ => rfl)) pa_nil)))) (pe_ix ix_tup (pv 1) pe_int (fun _ _ => rfl))))
      (pss_cons (ps_asg (pe_f d_weighted_divisor (hr.mono (by decide)) rfl passL (pa_cons (pe_op op_mulW (pe_ix ix_tup (pv 0) pe_int (fun _ _ => rfl)) (pe_op op_fdivW (pv 2) (pe_ix ix_tup (pv 0) pe_int (fun _ _ => rfl)))) (pa_cons (pe_op op_mulW (pe_ix ix_tup (pv 1) pe_int (fun _ _ => rfl)) (pe_op op_fdivW (pv 2) (pe_ix ix_tup (pv 1) pe_int (fun _ _ => rfl)))) pa_nil))) (pg_tup rfl (pgs_cons (pg_name (i := 3) sc.nd rfl (Or.inl rfl)) (pgs_cons (pg_name (i := 4) sc.nd rfl (Or.inl rfl)) (pgs_cons (pg_name (i := 5) sc.nd rfl (Or.inl rfl)) pgs_nil)))))
      (pss_one (ps_ret (pe_tup (pa_cons (pe_f d_lowest (hr.mono (by decide)) rfl passL (pa_cons (pv 3) (pa_cons (pv 2) pa_nil))) (pa_cons (pv 4) (pa_cons (pv 5) pa_nil)))))))), ?_⟩
  obtain ⟨g, v, n, m, ⟨a, rfl, ha⟩, ⟨b, rfl, hb⟩, bg, bv, m0, n0, hnm, hg, h⟩ := h
  have gp := jG_pos g v
  have bG : (((Int.gcd g.den v.den : Nat) : Int)).natAbs < 2 ^ n := Nat.lt_of_le_of_lt (Int.gcd_le_natAbs_left _ (den_ne g)) bg.d
  have b1 : ((g.den : Int) / ((Int.gcd g.den v.den : Nat) : Int)).natAbs < 2 ^ n := ediv_lt bg.d (Int.natCast_nonneg _) (by omega)
  have bcg : (jC g v / (g.den : Int)).natAbs < 2 ^ m := by rw [jCg]; exact ediv_lt bv.d (Int.natCast_nonneg _) (by omega)
  have bcv : (jC g v / (v.den : Int)).natAbs < 2 ^ n := by rw [jCv]; exact b1
  refine ⟨_, rfl, _, _, _, _, rfl, rfl, sq2 ha, at_1, _, rfl, _, _, _, _, rfl, rfl, sq2 ha, at_1, _, rfl, _, _, _, _, rfl, rfl, sq2 hb, at_1, _, _, rfl, _, _, rfl, rfl, ?_⟩
  refine ⟨_, _, rfl, rfl, cdiv gp bG n0 (by omega), _, rfl, _, _, _, _, rfl, rfl, sq2 hb, at_1, _, _, rfl, rfl, cmul b1 bv.d n0 m0 (by omega), ?_⟩
  have bL := jL_lt bg bv
  have bR := jR_lt bg bv
  have L0 : 0 ≤ jL g v := Int.mul_nonneg (Rat.num_nonneg.mpr hg) (Int.ediv_nonneg (Int.le_of_lt (jC_pos g v)) (by omega))
  refine ⟨_, rfl, _, _, _, _, rfl, rfl, sq2 ha, at_0, _, rfl, _, rfl, _, _, _, _, rfl, rfl, sq2 ha, at_1, _, _, rfl, rfl, cdiv (den_gt g) bg.d n0 (by omega), _, _, rfl, rfl, cmul bg.1 bcg n0 m0 (by omega), ?_⟩
  refine ⟨_, rfl, _, _, _, _, rfl, rfl, sq2 hb, at_0, _, rfl, _, rfl, _, _, _, _, rfl, rfl, sq2 hb, at_1, _, _, rfl, rfl, cdiv (den_gt v) bv.d m0 (by omega), _, _, rfl, rfl, cmul bv.1 bcv m0 n0 (by omega), ?_⟩
  refine ⟨_, _, rfl, jL g v, jR g v, rfl, rfl, L0, upto bL (by omega), upto bR (by omega), fun x y hxy bx by_ p H1 sm hp => ?_⟩
  refine ⟨p, _, rfl, SqT.of hp, rfl, _, _, rfl, _, _, rfl, _, _, rfl, rfl, ?_⟩
  have c0 : jC g v ≠ 0 := by have := jC_pos g v; omega
  refine ⟨_, rfl, _, rfl, _, _, rfl, _, jC g v, rfl, rfl, c0, gcd_log c0 (jC_lt bg bv) (by omega) (by omega), fun q hq => ?_⟩
  refine ⟨_, rfl, _, rfl, line3, fun r hr => ?_⟩
  refine h _ x y (jm_of hxy) (Sz.of_divInt c0 (jD_lt bg bv) (jC_lt bg bv)) (two_lt bx bR) (two_lt by_ bL) q r _ (Same.new (Same.new sm hq) hr) ?_ upd_same
  rw [upd_ne (ne_of_none upd_same hr)]
  exact upd_same
end
end Wk
set_option maxHeartbeats 4000000
namespace Wk
open PySem PySem.Spec PyProof.Rows L2
/-! ### lists, comprehensions -/
/-- all but lists are kept -/
def SameL (H H' : Hp) : Prop := ∀ b o, H b = some o → (∀ xs, o ≠ .lst xs) → H' b = some o
theorem SameL.of {H H' : Hp} (s : Same H H') : SameL H H' := fun b o e _ => s b o e
theorem SameL.rfl' {H : Hp} : SameL H H := fun _ _ e _ => e
theorem SameL.trans {H H1 H2 : Hp} (a : SameL H H1) (b : SameL H1 H2) : SameL H H2 := fun c o e n => b c o (a c o e n) n
theorem SameL.upd {H : Hp} {D : Addr} {xs ys : List V} (h : H D = some (.lst xs)) : SameL H (upd H D (.lst ys)) := fun b o e n => by
  have : b ≠ D := by
    rintro rfl
    rw [h] at e
    exact n xs (Option.some.inj e).symm
  rw [upd_ne this]; exact e
theorem FrV.monoL {H H' : Hp} {v : V} {x : Rat} (h : FrV H v x) (s : SameL H H') : FrV H' v x := let ⟨a, e, q⟩ := h; ⟨a, e, s a _ q (fun _ z => nomatch z)⟩
/-- kept, an own list changed -/
theorem Same.own {H H1 : Hp} {D : Addr} {o : HO} (h0 : H D = none) (s : Same H H1) : Same H (upd H1 D o) := fun b u e => by
  rw [upd_ne (ne_of_none e h0)]
  exact s b u e
theorem Same.rfl' {H : Hp} : Same H H := fun _ _ e => e
theorem Same.trans' {H H1 H2 : Hp} (a : Same H H1) (b : Same H1 H2) : Same H H2 := fun c o e => b c o (a c o e)
/-- what the new list is -/
def LcEnd (R : Nat → V → Hp → Prop) (n : Nat) (D : Addr) (H1 : Hp) (Qd : Hp → Prop) : Prop := ∀ H' ys, Same H1 H' → H' D = some (.lst ys) → ys.length = n → (∀ i y, ys[i]? = some y → R i y H') → Qd H'
section
variable {R : Nat → V → Hp → Prop} {g : TG} {te : TE} {vs : List Nat} {σ : L2.St} {H1 : Hp} {D : Addr} {Qd : Hp → Prop}
def LcPv (R : Nat → V → Hp → Prop) (D : Addr) (H1 : Hp) (i : Nat) (H : Hp) : Prop := Same H1 H ∧ ∃ acc, H D = some (.lst acc) ∧ acc.length = i ∧ ∀ j y, acc[j]? = some y → R j y H
theorem lcPv0 (hD : H1 D = none) : LcPv R D H1 0 (upd H1 D (.lst [])) := ⟨same_new hD, [], upd_same, rfl, fun j y z => by cases z⟩
theorem lcPv_next {i : Nat} {H H4 : Hp} {y : V} (mono : ∀ i y H H', SameL H H' → R i y H → R i y H') (hD : H1 D = none) (p : LcPv R D H1 i H) (s : Same H H4) (r : R i y H4) (hz : i < sizeLine) :
    ∃ acc, H4 D = some (.lst acc) ∧ acc.length < sizeLine ∧ LcPv R D H1 (i + 1) (upd H4 D (.lst (acc ++ [y]))) := by
  obtain ⟨s1, acc, ha, hl, hr⟩ := p
  have h4 := s D _ ha
  refine ⟨acc, h4, by omega, Same.own hD (Same.trans' s1 s), acc ++ [y], upd_same, by simp [hl], fun j z e => ?_⟩
  have sl : SameL H4 (upd H4 D (.lst (acc ++ [y]))) := SameL.upd h4
  by_cases hj : j < acc.length
  · rw [List.getElem?_append_left hj] at e
    exact mono _ _ _ _ ((SameL.of s).trans sl) (hr j z e)
  · have : j = acc.length := by
      have := (List.getElem?_eq_some_iff.mp e).1
      simp at this
      omega
    subst this
    rw [List.getElem?_append_right (Nat.le_refl _)] at e
    simp at e
    subst e hl
    exact mono _ _ _ _ sl r
/-- over a list -/
theorem lc_mapL {K : PySem.W.Frag} {a : Addr} {xs : List V} (mono : ∀ i y H H', SameL H H' → R i y H → R i y H') (hq : H1 a = some (.lst xs)) (hD : H1 D = none) (hz : xs.length ≤ sizeLine)
    (hs : ∀ i x H, xs[i]? = some x → Same H1 H → ∀ (k : VK), (∀ y H4, Same H H4 → R i y H4 → k y H4) → g x (wipe σ vs) H fun σ2 H2 => wipe σ2 vs = wipe σ vs ∧ te σ2 H2 k)
    (hd : LcEnd R xs.length D H1 Qd) :
    ∃ W : Nat → Nat → Hp → Prop, (∃ m, W 0 m (upd H1 D (.lst []))) ∧ ∀ i m H, W i m H →
      ((Itl K a).stop i H ∧ Qd H) ∨ ((Itl K a).go i H ∧ ∃ Nx : Hp → Prop, (∀ H', Nx H' → ∃ m', m' < m ∧ W (i + 1) m' H') ∧ ∀ x H', (Itl K a).yld i H x H' → g x (wipe σ vs) H' fun σ2 H2 => wipe σ2 vs = wipe σ vs ∧ tYes σ2 H2 fun b H3 =>
        if b = true then te σ2 H3 fun y H4 => ∃ acc, H4 D = some (.lst acc) ∧ acc.length < sizeLine ∧ Nx (upd H4 D (.lst (acc ++ [y]))) else Nx H3) := by
  refine lc_list (xs := xs) (LcPv R D H1) (lcPv0 hD) (fun i H _ p => SqL.of (p.1 a _ hq)) (fun i x H hx p => ?_) (fun H p => ?_)
  · have hi : i < sizeLine := Nat.lt_of_lt_of_le (List.getElem?_eq_some_iff.mp hx).1 hz
    have := hs i x H hx p.1 (fun y H4 => ∃ acc, H4 D = some (.lst acc) ∧ acc.length < sizeLine ∧ LcPv R D H1 (i + 1) (upd H4 D (.lst (acc ++ [y])))) (fun y H4 s r => lcPv_next mono hD p s r hi)
    simpa only [tYes, if_true] using this
  · obtain ⟨s, acc, h1, h2, h3⟩ := p
    exact hd H acc s h1 h2 h3
/-- over a range -/
theorem lc_mapR {lo : Int} {n : Nat} (mono : ∀ i y H H', SameL H H' → R i y H → R i y H') (hD : H1 D = none) (hz : n ≤ sizeLine)
    (hs : ∀ (i : Nat) (H : Hp), i < n → Same H1 H → ∀ (k : VK), (∀ y H4, Same H H4 → R i y H4 → k y H4) → g (.int (lo + i)) (wipe σ vs) H fun σ2 H2 => wipe σ2 vs = wipe σ vs ∧ te σ2 H2 k)
    (hd : LcEnd R n D H1 Qd) :
    ∃ W : Nat → Nat → Hp → Prop, (∃ m, W 0 m (upd H1 D (.lst []))) ∧ ∀ i m H, W i m H →
      ((Itr lo n).stop i H ∧ Qd H) ∨ ((Itr lo n).go i H ∧ ∃ Nx : Hp → Prop, (∀ H', Nx H' → ∃ m', m' < m ∧ W (i + 1) m' H') ∧ ∀ x H', (Itr lo n).yld i H x H' → g x (wipe σ vs) H' fun σ2 H2 => wipe σ2 vs = wipe σ vs ∧ tYes σ2 H2 fun b H3 =>
        if b = true then te σ2 H3 fun y H4 => ∃ acc, H4 D = some (.lst acc) ∧ acc.length < sizeLine ∧ Nx (upd H4 D (.lst (acc ++ [y]))) else Nx H3) := by
  refine lc_range (LcPv R D H1) (lcPv0 hD) (fun i H hi p => ?_) (fun H p => ?_)
  · have := hs i H hi p.1 (fun y H4 => ∃ acc, H4 D = some (.lst acc) ∧ acc.length < sizeLine ∧ LcPv R D H1 (i + 1) (upd H4 D (.lst (acc ++ [y])))) (fun y H4 s r => lcPv_next mono hD p s r (by omega))
    simpa only [tYes, if_true] using this
  · obtain ⟨s, acc, h1, h2, h3⟩ := p
    exact hd H acc s h1 h2 h3
end
/-! ### lists of fractions -/
structure FrX (H : Hp) (xs : List V) (rs : List Rat) : Prop where
  len : xs.length = rs.length
  at_ : ∀ (i : Nat) (x : V), xs[i]? = some x → ∃ r, rs[i]? = some r ∧ FrV H x r
theorem FrX.mono {H H' : Hp} {xs : List V} {rs : List Rat} (h : FrX H xs rs) (s : Same H H') : FrX H' xs rs := ⟨h.len, fun i x e => let ⟨r, a, b⟩ := h.at_ i x e; ⟨r, a, b.mono s⟩⟩
theorem FrX.monoL {H H' : Hp} {xs : List V} {rs : List Rat} (h : FrX H xs rs) (s : SameL H H') : FrX H' xs rs := ⟨h.len, fun i x e => let ⟨r, a, b⟩ := h.at_ i x e; ⟨r, a, b.monoL s⟩⟩
theorem bls_of {ys : List V} (h : ∀ (i : Nat) (y : V), ys[i]? = some y → y = .bl true) : ys = (List.replicate ys.length true).map V.bl := by
  apply List.ext_getElem?
  intro i
  rw [List.getElem?_map, List.getElem?_replicate]
  cases q : ys[i]? with
  | none =>
    have := List.getElem?_eq_none_iff.mp q
    rw [if_neg (by omega)]; rfl
  | some y =>
    have := (List.getElem?_eq_some_iff.mp q).1
    rw [if_pos this, h i y q]; rfl
theorem all_rep (n : Nat) : (List.replicate n true).all id = true := by simp
theorem ints_of {ys : List V} {f : Nat → Int} (h : ∀ (i : Nat) (y : V), ys[i]? = some y → y = .int (f i)) : ys = ((List.range ys.length).map f).map V.int := by
  apply List.ext_getElem?
  intro i
  rw [List.getElem?_map, List.getElem?_map]
  cases q : ys[i]? with
  | none =>
    have := List.getElem?_eq_none_iff.mp q
    rw [List.getElem?_eq_none (by simpa using this)]; rfl
  | some y =>
    have := (List.getElem?_eq_some_iff.mp q).1
    rw [List.getElem?_range this, h i y q]; rfl
theorem line400 {n : Nat} (h : n ≤ 1000) : n ≤ sizeLine := Nat.le_trans h (by decide)
/-! ### measure -/
theorem meas_nil : Meas [] 0 [] := ⟨rfl, by decide, rfl, fun r h => by cases h⟩
theorem meas_next {rs : List Rat} {g v g' : Rat} {ws : List Int} {x y : Int} (M : Meas rs g ws) (J : JM g v g' x y) : Meas (rs ++ [v]) g' (ws.map (· * x) ++ [y]) := by
  refine ⟨by simp [M.len], J.nn, ?_, fun r hr => ?_⟩
  · rw [wsum_snoc _ _ _ _ (by simp [M.len]), wsum_mul, M.sum]
    exact J.sum.symm
  · rcases List.mem_append.mp hr with h | h
    · obtain ⟨c, hc⟩ := M.mul r h
      obtain ⟨d, hd⟩ := J.m1
      refine ⟨c * d, ?_⟩
      rw [hc, hd]
      push_cast
      grind
    · obtain ⟨d, hd⟩ := J.m2
      rw [List.mem_singleton.mp h]
      exact ⟨d, hd⟩
theorem take_snoc {α : Type} {l : List α} {i : Nat} {x : α} (h : l[i]? = some x) : l.take (i + 1) = l.take i ++ [x] := by
  rw [List.take_add_one, h]; rfl
end Wk
set_option maxHeartbeats 4000000
namespace Wk
open PySem PySem.Spec PyProof.Rows L2
section
variable {P : Program} {w : World} {K : PySem.W.Frag} {mg : Str → Option Value} {base : Heap}
def spCv : Sp := sp1 fun a H Q _ => ∃ l xs rs, a = .ref l ∧ H l = some (.lst xs) ∧ FrX H xs rs ∧ 1 ≤ xs.length ∧ xs.length ≤ 12 ∧ ∀ H', Same H H' → Q .non H'
theorem lenL {K : PySem.W.Frag} {H : Hp} {a : Addr} {xs : List V} (h : H a = some (.lst xs)) : LenV K (.ref a) H xs.length := .inl ⟨xs, SqL.of h, rfl⟩
theorem ifN {p A B : Prop} [Decidable p] (hp : p) (h : B) : if (!decide p) = true then A else B := by
  rw [decide_eq_true hp]; exact h
abbrev N_check_values : List Str := ["values", "value"]
theorem sc_check_values : FnScope N_check_values ["values"] (defScope S_check_values) := ⟨rfl, rfl, rfl, by decide +kernel, rfl, by decide +kernel, by decide +kernel⟩
theorem ok_check_values (T : Tx K mg) (d_is_fraction : Ok P w K mg base 2 "is_fraction" ["value"] spIsFr)  : Ok P w K mg base 3 "check_values" ["values"] spCv := by
  obtain ⟨fd, F⟩ := T.f_check_values
  have sc := sc_check_values
  refine okFN (F := F) T.g_check_values F.kp (F.bindsN fun _ _ _ _ _ _ us hl => match us, hl with | [_], _ => rfl) sc sp1_len (fun cdv A outer s H vs Q E hr h => ?_)
  obtain ⟨u, rfl, h⟩ := h
  refine ⟨_, (pss_cons (ps_if (PW.pt (pw_or (pt_not (pt_val (pe_callB call_isi (by rfl) T.b_isinstance (by decide +kernel) (pa_cons (pv 0) (pa_cons (pe_bltn (v := .ty "list") rfl T.b_list (by decide +kernel) rfl) pa_nil))))) (pw_or1 (pt_not (pt_chain op_le op_le pe_int (pe_callB call_len (by rfl) T.b_len PySem.boot_len (pa_cons (pv 0) pa_nil)) (pe_glob (v := .int 12) rfl (T.i_MOST_VALUES).choose_spec ⟨_, rfl⟩)))))) (pss_one ps_never) pss_nil)
      (pss_one (ps_if (pt_not (pt_val (pe_callB (cr_all rfl) (by rfl) T.b_all (by decide +kernel) (pa_cons (pe_lc rfl sc.nd (pi_list (pv 0)) (blkOk_by (N := N_check_values) (sc := defScope S_check_values) (own := [("value", 1)]) (by decide +kernel)) (fun _ _ _ _ _ => (pg_name (i := 1) sc.nd rfl (Or.inl rfl))) (fun _ _ _ _ _ => pts_nil) (fun _ _ _ _ _ => (pe_f d_is_fraction (hr.mono (by decide)) rfl passL (pa_cons (pv 1) pa_nil)))) pa_nil)))) (pss_one ps_never) pss_nil))), ?_⟩
  obtain ⟨l, xs, rs, rfl, hl, hx, h1, h2, h⟩ := h
  refine ⟨_, rfl, _, _, _, _, true, rfl, .ty _, .base (.lst hl), k_lst_lst, true, rfl, iteF ?_⟩
  refine ⟨_, rfl, _, _, rfl, lenL hl, _, _, rfl, rfl, _, rfl, ifD (fun _ => ?_) (fun n => absurd (by show (1 : Int) ≤ (xs.length : Int); omega) n)⟩
  refine ⟨_, _, rfl, rfl, _, rfl, ifN (by show (xs.length : Int) ≤ 12; omega) ?_⟩
  refine ⟨_, rfl, l, rfl, ⟨_, SqL.of hl⟩, fun D hD => ?_⟩
  refine lc_mapL (R := fun _ y _ => y = .bl true) (xs := xs) (fun _ _ _ _ _ z => z) hl hD (line400 (by omega)) (fun i x H' hi s k hk => ?_) (fun H' ys s hy hn hr => ?_)
  · obtain ⟨r, _, hf⟩ := hx.at_ i x hi
    exact ⟨rfl, _, rfl, _, rfl, r, hf.mono s, hk _ _ Same.rfl' rfl⟩
  · refine ⟨D, List.replicate ys.length true, rfl, ?_, ?_⟩
    · rw [← bls_of hr]; exact SqL.of hy
    · rw [all_rep]
      exact ⟨true, rfl, iteF (h H' s)⟩
/-- measure_paper: the measure, the weights -/
def spMp : Sp := sp1 fun a H Q _ => ∃ l xs rs, a = .ref l ∧ H l = some (.lst xs) ∧ FrX H xs rs ∧ 1 ≤ rs.length ∧ rs.length ≤ 5 ∧ (∀ r ∈ rs, Sz 19 r) ∧
  ∀ (g : Rat) (ws : List Int), Meas rs g ws → Sz 96 g → (∀ u ∈ ws, u.natAbs < 2 ^ 501) → ∀ p q t H', Same H H' → H' p = some (frO g) → H' q = some (.tup (ws.map V.int)) → H' t = some (.tup [.ref p, .ref q]) → Q (.ref t) H'
/-- what the loop keeps -/
structure MpI (rs : List Rat) (H0 : Hp) (i : Nat) (mv : V) (wl : Addr) (H : Hp) : Prop where
  sm : Same H0 H
  ex : ∃ (g : Rat) (ws : List Int), FrV H mv g ∧ H wl = some (.lst (ws.map V.int)) ∧ Meas (rs.take i) g ws ∧ Sz (1 + 19 * i) g ∧ ∀ u ∈ ws, u.natAbs < 2 ^ (100 * i + 1)
  fresh : H0 wl = none
theorem map_get {ws : List Int} {i : Nat} {x : V} (h : (ws.map V.int)[i]? = some x) : ∃ u, ws[i]? = some u ∧ x = .int u := by
  rw [List.getElem?_map] at h
  cases q : ws[i]? with
  | none => rw [q] at h; cases h
  | some u => rw [q] at h; exact ⟨u, rfl, (Option.some.inj h).symm⟩
theorem fr0 : frO (0 : Rat) = .tup [.int 0, .int 1] := rfl
theorem fr1 : frO (1 : Rat) = .tup [.int 1, .int 1] := rfl
theorem ints_map {ws : List Int} {f : Int → Int} {ys : List V} (hl : ys.length = ws.length) (h : ∀ (i : Nat) (y : V), ys[i]? = some y → ∃ u, ws[i]? = some u ∧ y = .int (f u)) : ys = (ws.map f).map V.int := by
  apply List.ext_getElem?
  intro i
  rw [List.getElem?_map, List.getElem?_map]
  cases q : ys[i]? with
  | none =>
    have := List.getElem?_eq_none_iff.mp q
    rw [List.getElem?_eq_none (by omega)]; rfl
  | some y =>
    obtain ⟨u, hu, hy⟩ := h i y q
    rw [hu, hy]; rfl
theorem tyL {K : PySem.W.Frag} {H : Hp} {a : Addr} {xs : List V} (h : H a = some (.lst xs)) : tyV K "list" (.ref a) H := .inl ⟨rfl, xs, SqL.of h⟩
theorem none_of {H H1 : Hp} {p : Addr} (s : Same H H1) (h : H1 p = none) : H p = none := by
  cases e : H p with
  | none => rfl
  | some o =>
    have := s p o e
    rw [h] at this; cases this
abbrev N_measure_paper : List Str := ["values", "measure", "weights", "value", "old_factor", "new_weight", "weight"]
theorem sc_measure_paper : FnScope N_measure_paper ["values"] (defScope S_measure_paper) := ⟨rfl, rfl, rfl, by decide +kernel, rfl, by decide +kernel, by decide +kernel⟩
theorem ok_measure_paper (T : Tx K mg) (d_joint_measure : Ok P w K mg base 3 "joint_measure" ["left", "right"] spJm) (d_check_values : Ok P w K mg base 3 "check_values" ["values"] spCv)  : Ok P w K mg base 4 "measure_paper" ["values"] spMp := by
  obtain ⟨fd, F⟩ := T.f_measure_paper
  have sc := sc_measure_paper
  refine okFN (F := F) T.g_measure_paper F.kp (F.bindsN fun _ _ _ _ _ _ us hl => match us, hl with | [_], _ => rfl) sc sp1_len (fun cdv A outer s H vs Q E hr h => ?_)
  obtain ⟨u, rfl, h⟩ := h
  refine ⟨_, (pss_cons (ps_expr (pe_f d_check_values (hr.mono (by decide)) rfl passL (pa_cons (pv 0) pa_nil)))
      (pss_cons (ps_set (i := 1) sc.nd rfl (Or.inl rfl) (pe_tup (pa_cons pe_int (pa_cons pe_int pa_nil))))
      (pss_cons (ps_set (i := 2) sc.nd rfl (Or.inl rfl) (pe_lst pa_nil))
      (pss_cons (ps_for PassesOwn.never rfl (pi_list (pv 0)) (pg_name (i := 3) sc.nd rfl (Or.inl rfl)) (pss_cons (ps_asg (pe_f d_joint_measure (hr.mono (by decide)) rfl passL (pa_cons (pv 1) (pa_cons (pv 3) pa_nil))) (pg_tup rfl (pgs_cons (pg_name (i := 1) sc.nd rfl (Or.inl rfl)) (pgs_cons (pg_name (i := 4) sc.nd rfl (Or.inr rfl)) (pgs_cons (pg_name (i := 5) sc.nd rfl (Or.inl rfl)) pgs_nil)))))
      (pss_cons (ps_setLc (i := 2) rfl sc.nd rfl rfl (sw_true rfl rfl rfl (by decide +kernel)) (pi_list (pv 2)) (blkOk_by (N := N_measure_paper) (sc := defScope S_measure_paper) (own := [("weight", 6)]) (by decide +kernel)) (fun _ _ _ _ _ => (pg_name (i := 6) sc.nd rfl (Or.inl rfl))) (fun _ _ _ _ _ => pts_nil) (fun _ _ _ _ _ => (pe_op op_mulW (pv 6) (pv 4))))
      (pss_one (ps_expr (pe_bm PySem.F.plainAttrs_list PySem.F.slot_list_append PySem.F.type_list_append mt_append (pv 2) (pa_cons (pv 5) pa_nil)))))))
      (pss_one (ps_ret (pe_tup (pa_cons (pv 1) (pa_cons (pe_callTy call_tuple_of (by rfl) T.b_tuple (by decide +kernel) (pa_cons (pv 2) pa_nil)) pa_nil))))))))), ?_⟩
  obtain ⟨l, xs, rs, rfl, hl, hx, h1, h2, hsz, h⟩ := h
  have hlen := hx.len
  refine ⟨_, rfl, _, rfl, l, xs, rs, rfl, hl, hx, by omega, by omega, fun H1 s1 => ?_⟩
  refine ⟨line2, fun p hp => ?_⟩
  refine ⟨by decide, fun q hq => ?_⟩
  have s3 : Same H (upd (upd H1 p (.tup [.int 0, .int 1])) q (.lst [])) := Same.new (Same.new s1 hp) hq
  have lat := s3 l _ hl
  refine ⟨_, rfl, l, rfl, ⟨_, SqL.of lat⟩, ?_⟩
  refine for_list (xs := xs) (fun i σ H' => ∃ (mv : V) (wl : Addr) (o3 o4 o5 o6 : Option V), σ = [some (.ref l), some mv, some (.ref wl), o3, o4, o5, o6] ∧ MpI rs H i mv wl H') ?_ ?_ ?_ ?_
  · refine ⟨_, q, _, _, _, _, rfl, s3, ⟨0, [], ⟨p, rfl, ?_⟩, upd_same, meas_nil, ⟨by decide, by decide⟩, fun u hu => by cases hu⟩, ?_⟩
    · rw [upd_ne (ne_of_none upd_same hq)]; exact upd_same
    · exact none_of (Same.new s1 hp) hq
  · rintro i σ H' _ ⟨mv, wl, o3, o4, o5, o6, rfl, I⟩
    exact SqL.of (I.sm l _ hl)
  · rintro i x σ H' hi ⟨mv, wl, o3, o4, o5, o6, rfl, I⟩
    obtain ⟨sm, ⟨g, ws, hg, hw, M, bg, bw⟩, hf⟩ := I
    obtain ⟨v, hv, fv⟩ := hx.at_ i x hi
    have il : i < xs.length := (List.getElem?_eq_some_iff.mp hi).1
    refine ⟨_, rfl, _, rfl, _, _, rfl, g, v, 1 + 19 * i, 19, hg, fv.mono sm, bg, hsz v (List.mem_of_getElem? hv), by decide, by omega, by omega, M.nn, fun g' X Y J bg' bX bY p2 q2 H2 s2 hp2 hq2 => ?_⟩
    refine ⟨q2, _, rfl, SqT.of hq2, rfl, _, _, rfl, _, _, rfl, _, _, rfl, rfl, ?_⟩
    have hw2 := s2 wl _ hw
    refine ⟨_, rfl, wl, rfl, ⟨_, SqL.of hw2⟩, fun D hD => ?_⟩
    have wn : (ws.map V.int).length ≤ 5 := by rw [List.length_map, M.len, List.length_take]; omega
    refine lc_mapL (R := fun i y _ => ∃ u, ws[i]? = some u ∧ y = .int (u * X)) (fun _ _ _ _ _ z => z) hw2 hD (line400 (by omega)) (fun j y H3 hj s3 k hk => ?_) (fun H3 ys s3 hy hn hr => ?_)
    · obtain ⟨u, hu, rfl⟩ := map_get hj
      have bu := bw u (List.mem_of_getElem? hu)
      exact ⟨rfl, _, rfl, _, rfl, _, _, rfl, rfl, cmul bu bX (by omega) (by omega) (by omega), hk _ _ Same.rfl' ⟨u, hu, rfl⟩⟩
    · have ey := ints_map (f := fun u => u * X) (by rw [hn, List.length_map]) hr
      refine ⟨_, rfl, tyL hy, _, rfl, D, ys, _, rfl, rfl, hy, Nat.lt_of_le_of_lt (show ys.length ≤ 5 by omega) (show 5 < sizeLine by decide), ?_⟩
      have sD : Same H H3 := Same.trans' sm (Same.trans' s2 s3)
      have D0 : H D = none := none_of (Same.trans' sm s2) hD
      refine ⟨_, D, _, _, _, _, rfl, Same.own D0 sD, ⟨g', ws.map (fun u => u * X) ++ [Y], ⟨p2, rfl, ?_⟩, ?_, ?_, bg'.mono (by omega), fun u hu => ?_⟩, D0⟩
      · have e3 := s3 p2 _ hp2
        rw [upd_ne (fun e => by rw [e, hy] at e3; cases e3)]
        exact e3
      · rw [ey, List.map_append]; exact upd_same
      · rw [take_snoc hv]; exact meas_next M J
      · rcases List.mem_append.mp hu with z | z
        · obtain ⟨a, ha, rfl⟩ := List.mem_map.mp z
          exact lt_mono (lt_mul (bw a ha) bX) (by omega)
        · rw [List.mem_singleton.mp z]
          exact lt_mono bY (by omega)
  · rintro σ H' ⟨mv, wl, o3, o4, o5, o6, rfl, I⟩
    obtain ⟨sm, ⟨g, ws, hg, hw, M, bg, bw⟩, hf⟩ := I
    rw [List.take_of_length_le (by omega)] at M
    obtain ⟨p1, rfl, hp1⟩ := hg
    refine ⟨_, rfl, _, rfl, wl, _, rfl, .inl ⟨SqL.of hw, fun q1 hq1 => ⟨line2, fun t ht => ?_⟩⟩⟩
    refine h g ws M (bg.mono (by omega)) (fun u hu => lt_mono (bw u hu) (by omega)) p1 q1 t _ (Same.new (Same.new sm hq1) ht) ?_ ?_ upd_same
    · exact same_new ht _ _ (same_new hq1 _ _ hp1)
    · exact same_new ht _ _ upd_same
end
end Wk
set_option maxHeartbeats 4000000
namespace Wk
open PySem PySem.Spec PyProof.Rows L2
/-! ### spans, cycles in the heap -/
def SpanV (K : PySem.W.Frag) (H : Hp) (v : V) (a b : Rat) : Prop := ∃ p dx fa fb fl, v = .ref p ∧ H p = some (.ins (ga K "Span") dx [("first", fa), ("last", fb), ("length", fl)]) ∧ FrV H fa a ∧ FrV H fb b
theorem SpanV.mono {K : PySem.W.Frag} {H H' : Hp} {v : V} {a b : Rat} (h : SpanV K H v a b) (s : Same H H') : SpanV K H' v a b :=
  let ⟨p, dx, fa, fb, fl, e, hp, x, y⟩ := h; ⟨p, dx, fa, fb, fl, e, s p _ hp, x.mono s, y.mono s⟩
/-- a period: None, or the interval -/
def PerV (H : Hp) (v : V) (r : Rat) : Prop := (r = 0 ∧ v = .non) ∨ (r ≠ 0 ∧ FrV H v (absR (1 / r)))
theorem PerV.mono {H H' : Hp} {v : V} {r : Rat} (h : PerV H v r) (s : Same H H') : PerV H' v r := h.imp id fun ⟨a, b⟩ => ⟨a, b.mono s⟩
theorem PerV.monoL {H H' : Hp} {v : V} {r : Rat} (h : PerV H v r) (s : SameL H H') : PerV H' v r := h.imp id fun ⟨a, b⟩ => ⟨a, b.monoL s⟩
def CycA (K : PySem.W.Frag) (H : Hp) (p : Addr) (d : Rw) : Prop := ∃ dx fr fs fp, H p = some (.ins (ga K "Cycle") dx [("rate", fr), ("start", fs), ("period", fp)]) ∧ FrV H fr d.1 ∧ FrV H fs d.2 ∧ PerV H fp d.1
def CycV (K : PySem.W.Frag) (H : Hp) (v : V) (d : Rw) : Prop := ∃ p, v = .ref p ∧ CycA K H p d
section
variable {K : PySem.W.Frag} {H H' : Hp} {p : Addr} {v : V} {d : Rw}
theorem CycA.mono (h : CycA K H p d) (s : Same H H') : CycA K H' p d := let ⟨dx, a, b, c, e, x, y, z⟩ := h; ⟨dx, a, b, c, s p _ e, x.mono s, y.mono s, z.mono s⟩
theorem CycA.monoL (h : CycA K H p d) (s : SameL H H') : CycA K H' p d := let ⟨dx, a, b, c, e, x, y, z⟩ := h; ⟨dx, a, b, c, s p _ e (fun _ q => nomatch q), x.monoL s, y.monoL s, z.monoL s⟩
theorem CycV.mono (h : CycV K H v d) (s : Same H H') : CycV K H' v d := let ⟨p, e, x⟩ := h; ⟨p, e, x.mono s⟩
theorem CycV.monoL (h : CycV K H v d) (s : SameL H H') : CycV K H' v d := let ⟨p, e, x⟩ := h; ⟨p, e, x.monoL s⟩
end
theorem unit_num {n d : Int} (hd : 0 < d) (h : Int.gcd n d = 1) : (Rat.divInt n d).num = n ∧ ((Rat.divInt n d).den : Int) = d := by
  have h1 := low_num' n d hd
  have h2 := low_den' n d hd
  rw [h] at h1 h2
  simp at h1 h2
  exact ⟨h1.symm, h2.symm⟩
theorem one_div (r : Rat) : 1 / r = Rat.divInt r.den r.num := by
  rw [div_divInt]
  show Rat.divInt (1 * (r.den : Int)) (1 * r.num) = _
  rw [Int.one_mul, Int.one_mul]
theorem num_ne {r : Rat} (h : r ≠ 0) : r.num ≠ 0 := fun e => h (Rat.num_eq_zero.mp e)
theorem lt0_num (r : Rat) : r < 0 ↔ r.num < 0 := by
  have := Rat.num_nonneg (q := r)
  constructor
  · intro h
    rcases Int.lt_or_le r.num 0 with a | a
    · exact a
    · exact absurd (this.mp a) (Rat.not_le.mpr h)
  · intro h
    exact Rat.not_le.mp fun z => by have := this.mpr z; omega
theorem frO_per {r : Rat} (h : r ≠ 0) : frO (absR (1 / r)) = .tup [.int (r.den : Int), .int (if r.num < 0 then -r.num else r.num)] := by
  have hn := num_ne h
  have hr := red r
  have dp := den_gt r
  by_cases c : r.num < 0
  · rw [if_pos c]
    have e : Rat.divInt (r.den : Int) r.num = -Rat.divInt (r.den : Int) (-r.num) := by
      rw [Rat.divInt_eq_div, Rat.divInt_eq_div]
      push_cast
      grind
    have u := unit_num (n := (r.den : Int)) (d := -r.num) (by omega) (by rw [Int.gcd_neg, Int.gcd_comm]; exact hr)
    have pos : 0 ≤ Rat.divInt (r.den : Int) (-r.num) := (Rat.divInt_nonneg_iff_of_pos_right (by omega)).mpr (by omega)
    have a : absR (1 / r) = Rat.divInt (r.den : Int) (-r.num) := by
      rw [one_div, e]
      unfold absR
      have nz : Rat.divInt (r.den : Int) (-r.num) ≠ 0 := fun z => by
        have := u.1
        rw [z] at this
        have z2 : (0 : Rat).num = 0 := rfl
        omega
      have : -Rat.divInt (r.den : Int) (-r.num) < 0 := by grind
      rw [if_pos this]
      grind
    rw [a]
    show HO.tup [.int _, .int _] = _
    rw [u.1, u.2]
  · rw [if_neg c]
    have u := unit_num (n := (r.den : Int)) (d := r.num) (by omega) (by rw [Int.gcd_comm]; exact hr)
    have pos : 0 ≤ Rat.divInt (r.den : Int) r.num := (Rat.divInt_nonneg_iff_of_pos_right (by omega)).mpr (by omega)
    have a : absR (1 / r) = Rat.divInt (r.den : Int) r.num := by
      rw [one_div]
      unfold absR
      rw [if_neg (Rat.not_lt.mpr pos)]
    rw [a]
    show HO.tup [.int _, .int _] = _
    rw [u.1, u.2]
theorem absR_nn (x : Rat) : 0 ≤ absR x := by unfold absR; split <;> grind
theorem Sz.absR {n : Nat} {x : Rat} (h : Sz n x) : Sz n (Wk.absR x) := by unfold Wk.absR; split; exact h.neg; exact h
theorem frO_int (k : Int) : frO (k : Rat) = .tup [.int k, .int 1] := rfl
/-! ### making an instance -/
/-- kept but for the instance at p -/
def SameX (p : Addr) (H H' : Hp) : Prop := ∀ b o, b ≠ p → H b = some o → H' b = some o
theorem same_made {H : Hp} {x dx : Addr} {o o' : HO} (hx : H x = none) (hd : H dx = none) : Same H (upd (upd H dx o') x o) := fun b u e => by
  rw [upd_ne (ne_of_none e hx), upd_ne (ne_of_none e hd)]; exact e
theorem made {H H' : Hp} {x dx : Addr} {o o' : HO} (hx : H x = none) (hd : H dx = none) (s : SameX x (upd (upd H dx o') x o) H') : Same H H' := fun b u e => by
  refine s b u (ne_of_none e hx) ?_
  exact same_made hx hd b u e
theorem FrV.monoX {H H' : Hp} {v : V} {x : Rat} {p : Addr} {C dx : Addr} {fs : List (Str × V)} (h : FrV H v x) (hp : H p = some (.ins C dx fs)) (s : SameX p H H') : FrV H' v x := by
  obtain ⟨a, e, q⟩ := h
  refine ⟨a, e, s a _ ?_ q⟩
  rintro rfl
  rw [hp] at q; cases q
theorem sameX_upd {H : Hp} {p : Addr} {o : HO} : SameX p H (upd H p o) := fun b u n e => by rw [upd_ne n]; exact e
theorem SameX.trans {H H1 H2 : Hp} {p : Addr} (a : SameX p H H1) (b : SameX p H1 H2) : SameX p H H2 := fun c o n e => b c o n (a c o n e)
theorem SameX.of {H H1 : Hp} {p : Addr} (a : Same H H1) : SameX p H H1 := fun c o n e => a c o e
/-! ### what a search gives -/
def GvRes (K : PySem.W.Frag) (H : Hp) (Q : VK) (E : XK) : Res → Prop
  | .told l => ∀ p xs H', Same H H' → H' p = some (.lst xs) → FrX H' xs l → Q (.ref p) H'
  | .many => Rz K "TooMany" "limit" (.int 400) H E
  | .endless => ∀ H', Same H H' → E (.ref (ga K "Endless")) none H'
theorem Rz.at {K : PySem.W.Frag} {x f : Str} {v : V} {H H1 : Hp} {E : XK} (h : Rz K x f v H E) (s : Same H H1) : Rz K x f v H1 E := fun dd H' s' e => h dd H' (Same.trans' s s') e
theorem GvRes.at {K : PySem.W.Frag} {H H1 : Hp} {Q : VK} {E : XK} {r : Res} (h : GvRes K H Q E r) (s : Same H H1) : GvRes K H1 Q E r := by
  cases r with
  | told l => exact fun p xs H' s' => h p xs H' (Same.trans' s s')
  | endless => exact fun H' s' => h H' (Same.trans' s s')
  | many => exact Rz.at h s
end Wk
set_option maxHeartbeats 4000000
namespace Wk
open PySem PySem.Spec PyProof.Rows L2
section
variable {P : Program} {w : World} {K : PySem.W.Frag} {mg : Str → Option Value} {base : Heap}
/-! ### spans -/
def spSpan (K : PySem.W.Frag) : Sp := sp3 fun s f l H Q _ => ∃ p dx a b, s = .ref p ∧ H p = some (.ins (ga K "Span") dx []) ∧ FrV H f a ∧ FrV H l b ∧ Big a ∧ Big b ∧ a ≤ b ∧
  ∀ H', SameX p H H' → SpanV K H' (.ref p) a b → Q .non H'
theorem putF_len (f : Str) (v : V) : ∀ fs : List (Str × V), (putF f v fs).length ≤ fs.length + 1
  | [] => Nat.le_refl _
  | (g, x) :: r => by
    unfold putF
    split
    · simp
    · have := putF_len f v r
      simp only [List.length_cons]
      omega
theorem pl1 {f : Str} {v : V} : (putF f v []).length < 1000 := Nat.lt_of_le_of_lt (putF_len _ _ _) (by decide)
theorem pl2 {f g : Str} {v u : V} : (putF g u (putF f v [])).length < 1000 := by
  have := putF_len g u (putF f v [])
  have := putF_len f v []
  simp only [List.length_nil] at this
  omega
theorem ifF' {A B : Prop} (h : B) : if (false : Bool) = true then A else B := by simpa using h
abbrev N_Span_init : List Str := ["self", "first", "last"]
theorem sc_Span_init : FnScope N_Span_init ["self", "first", "last"] (defScope S_Span_init) := ⟨rfl, rfl, rfl, by decide +kernel, rfl, by decide +kernel, by decide +kernel⟩
theorem ok_Span_init (T : Tx K mg) (d_minus : Ok P w K mg base 4 "minus" ["left", "right"] (spBin (fun x y => x - y) noC)) (d_precedes : Ok P w K mg base 1 "precedes" ["left", "right"] spPrec) (d_is_fraction : Ok P w K mg base 2 "is_fraction" ["value"] spIsFr)  : OkM P w K mg base 5 "Span" "__init__" ["self", "first", "last"] (spSpan K) := by
  obtain ⟨fd, F⟩ := T.f_Span_init
  have sc := sc_Span_init
  refine okMN (F := F)  (F.bindsN fun _ _ _ _ _ _ us hl => match us, hl with | [_, _, _], _ => rfl) sc sp3_len (fun cdv A outer s H vs Q E hr h => ?_)
  obtain ⟨u, v, z, rfl, h⟩ := h
  refine ⟨_, (pss_cons (ps_if (pt_not (pt_val (pe_f d_is_fraction (hr.mono (by decide)) rfl passL (pa_cons (pv 1) pa_nil)))) (pss_one ps_never) pss_nil)
      (pss_cons (ps_if (pt_not (pt_val (pe_f d_is_fraction (hr.mono (by decide)) rfl passL (pa_cons (pv 2) pa_nil)))) (pss_one ps_never) pss_nil)
      (pss_cons (ps_if (pt_val (pe_f d_precedes (hr.mono (by decide)) rfl passL (pa_cons (pv 2) (pa_cons (pv 1) pa_nil)))) (pss_one ps_never) pss_nil)
      (pss_cons (ps_fld (pv 0) (pv 1) rfl)
      (pss_cons (ps_fld (pv 0) (pv 2) rfl)
      (pss_one (ps_fld (pv 0) (pe_f d_minus (hr.mono (by decide)) rfl passL (pa_cons (pv 2) (pa_cons (pv 1) pa_nil))) rfl))))))), ?_⟩
  obtain ⟨p, dx, a, b, rfl, hp, ha, hb, ba, bb, hab, h⟩ := h
  refine ⟨_, rfl, _, rfl, a, ha, true, rfl, iteF ?_⟩
  refine ⟨_, rfl, _, rfl, b, hb, true, rfl, iteF ?_⟩
  refine ⟨_, rfl, _, rfl, _, _, rfl, b, a, hb, ha, bb, ba, _, rfl, ?_⟩
  rw [decide_eq_false (Rat.not_lt.mpr hab)]
  refine iteF ?_
  refine ⟨_, rfl, _, rfl, p, _, dx, _, rfl, hp, T.c_Span, T.n_Span_first, by decide, ?_⟩
  refine ⟨_, rfl, _, rfl, p, _, dx, _, rfl, upd_same, T.c_Span, T.n_Span_last, pl1, ?_⟩
  have s2 := (sameX_upd (H := H) (p := p) (o := .ins (ga K "Span") dx (putF "first" v []))).trans (sameX_upd (o := .ins (ga K "Span") dx (putF "last" z (putF "first" v []))))
  have ha2 := ha.monoX hp s2
  have hb2 := hb.monoX hp s2
  refine ⟨_, rfl, _, rfl, _, _, rfl, b, a, hb2, ha2, bb, ba, trivial, fun q hq => ?_⟩
  have hp3 := same_new (o := frO (b - a)) hq p _ upd_same
  refine ⟨_, rfl, p, _, dx, _, rfl, hp3, T.c_Span, T.n_Span_length, pl2, ?_⟩
  refine h _ ((s2.trans (SameX.of (same_new hq))).trans sameX_upd) ⟨p, dx, v, z, .ref q, rfl, upd_same, ?_, ?_⟩
  · exact (ha2.mono (same_new hq)).monoX hp3 sameX_upd
  · exact (hb2.mono (same_new hq)).monoX hp3 sameX_upd
/-! ### what is asked -/
def spNeedFr : Sp := sp2 fun a b H Q _ => ∃ x, FrV H a x ∧ Q .non H
abbrev N_need_fraction : List Str := ["value", "what"]
theorem sc_need_fraction : FnScope N_need_fraction ["value", "what"] (defScope S_need_fraction) := ⟨rfl, rfl, rfl, by decide +kernel, rfl, by decide +kernel, by decide +kernel⟩
theorem ok_need_fraction (T : Tx K mg) (d_is_fraction : Ok P w K mg base 2 "is_fraction" ["value"] spIsFr)  : Ok P w K mg base 3 "need_fraction" ["value", "what"] spNeedFr := by
  obtain ⟨fd, F⟩ := T.f_need_fraction
  have sc := sc_need_fraction
  refine okFN (F := F) T.g_need_fraction F.kp (F.bindsN fun _ _ _ _ _ _ us hl => match us, hl with | [_, _], _ => rfl) sc sp2_len (fun cdv A outer s H vs Q E hr h => ?_)
  obtain ⟨u, v, rfl, h⟩ := h
  refine ⟨_, (pss_one (ps_if (pt_not (pt_val (pe_f d_is_fraction (hr.mono (by decide)) rfl passL (pa_cons (pv 0) pa_nil)))) (pss_one ps_never) pss_nil)), ?_⟩
  obtain ⟨x, hx, h⟩ := h
  exact ⟨_, rfl, _, rfl, x, hx, true, rfl, iteF h⟩
def spNeedPl : Sp := sp2 fun a b H Q _ => ∃ x, FrV H a x ∧ 0 ≤ x ∧ x < 1 ∧ Q .non H
theorem lt1_num {x : Rat} (h : x < 1) : x.num < (x.den : Int) := by
  have := (Rat.lt_iff x 1).mp h
  have e1 : (1 : Rat).num = 1 := rfl
  have e2 : ((1 : Rat).den : Int) = 1 := rfl
  rw [e1, e2] at this
  omega
abbrev N_need_place : List Str := ["value", "what"]
theorem sc_need_place : FnScope N_need_place ["value", "what"] (defScope S_need_place) := ⟨rfl, rfl, rfl, by decide +kernel, rfl, by decide +kernel, by decide +kernel⟩
theorem ok_need_place (T : Tx K mg) (d_is_fraction : Ok P w K mg base 2 "is_fraction" ["value"] spIsFr)  : Ok P w K mg base 3 "need_place" ["value", "what"] spNeedPl := by
  obtain ⟨fd, F⟩ := T.f_need_place
  have sc := sc_need_place
  refine okFN (F := F) T.g_need_place F.kp (F.bindsN fun _ _ _ _ _ _ us hl => match us, hl with | [_, _], _ => rfl) sc sp2_len (fun cdv A outer s H vs Q E hr h => ?_)
  obtain ⟨u, v, rfl, h⟩ := h
  refine ⟨_, (pss_one (ps_if (PW.pt (pw_or (pt_not (pt_val (pe_f d_is_fraction (hr.mono (by decide)) rfl passL (pa_cons (pv 0) pa_nil)))) (pw_or1 (pt_not (pt_chain op_le op_lt pe_int (pe_ix ix_tup (pv 0) pe_int (fun _ _ => rfl)) (pe_ix ix_tup (pv 0) pe_int (fun _ _ => rfl))))))) (pss_one ps_never) pss_nil)), ?_⟩
  obtain ⟨x, hx, h0, h1, h⟩ := h
  have n0 := Rat.num_nonneg.mpr h0
  have n1 := lt1_num h1
  refine ⟨_, rfl, _, rfl, x, hx, true, rfl, iteF ?_⟩
  obtain ⟨a, rfl, ha⟩ := hx
  refine ⟨_, rfl, _, _, _, _, rfl, rfl, sq2 ha, at_0, _, _, rfl, rfl, _, rfl, ifD (fun _ => ?_) (fun n => absurd n0 n)⟩
  exact ⟨_, rfl, _, _, _, _, rfl, rfl, sq2 ha, at_1, _, _, rfl, rfl, _, rfl, ifN n1 h⟩
def spNeedSp (K : PySem.W.Frag) : Sp := sp2 fun v b H Q _ => ∃ x y, SpanV K H v x y ∧ Q .non H
abbrev N_need_span : List Str := ["value", "what"]
theorem sc_need_span : FnScope N_need_span ["value", "what"] (defScope S_need_span) := ⟨rfl, rfl, rfl, by decide +kernel, rfl, by decide +kernel, by decide +kernel⟩
theorem ok_need_span (T : Tx K mg)   : Ok P w K mg base 1 "need_span" ["value", "what"] (spNeedSp K) := by
  obtain ⟨fd, F⟩ := T.f_need_span
  have sc := sc_need_span
  refine okFN (F := F) T.g_need_span F.kp (F.bindsN fun _ _ _ _ _ _ us hl => match us, hl with | [_, _], _ => rfl) sc sp2_len (fun cdv A outer s H vs Q E hr h => ?_)
  obtain ⟨u, v, rfl, h⟩ := h
  refine ⟨_, (pss_one (ps_if (pt_not (pt_val (pe_callB call_isi (by rfl) T.b_isinstance (by decide +kernel) (pa_cons (pv 0) (pa_cons (pe_glob (v := .ref (ga K "Span")) rfl T.g_Span rfl) pa_nil))))) (pss_one ps_never) pss_nil)), ?_⟩
  obtain ⟨x, y, ⟨p, dx, fa, fb, fl, rfl, hp, _, _⟩, h⟩ := h
  exact ⟨_, rfl, _, _, _, _, true, rfl, .own _, .base (.ins hp T.c_Span T.j_Span.cl T.oc_get T.oc_tak T.j_Span.hm), k_own, true, rfl, iteF h⟩
/-! ### steps -/
def spNext : Sp := sp3 fun f i m H Q _ => ∃ x y a, FrV H f x ∧ FrV H i y ∧ FrV H m a ∧ Sz 600 x ∧ Sz 600 y ∧ Sz 600 a ∧ 0 < y ∧ Gv H (frO (x + ((loK x y a : Int) : Rat) * y)) Q
theorem floor_lt {n : Nat} {x : Rat} (h : Sz n x) : x.floor.natAbs < 2 ^ (n + 1) := by
  have := h.floor
  have : 2 ^ (n + 1) = 2 ^ n * 2 := Nat.pow_succ ..
  have : 0 < 2 ^ n := Nat.two_pow_pos n
  omega
theorem loK_lt {x y a : Rat} {n : Nat} (hx : Sz n x) (hy : Sz n y) (ha : Sz n a) (h : 0 < y) : (loK x y a).natAbs < 2 ^ (3 * n + 2) := by
  unfold loK
  rw [Int.natAbs_neg]
  have := floor_lt ((hx.sub ha).div hy (by grind))
  exact Nat.lt_of_lt_of_le this (Nat.pow_le_pow_right (by decide) (by omega))
abbrev N_next_step : List Str := ["first", "interval", "moment", "steps"]
theorem sc_next_step : FnScope N_next_step ["first", "interval", "moment"] (defScope S_next_step) := ⟨rfl, rfl, rfl, by decide +kernel, rfl, by decide +kernel, by decide +kernel⟩
theorem ok_next_step (T : Tx K mg) (d_plus : Ok P w K mg base 4 "plus" ["left", "right"] (spBin (fun x y => x + y) noC)) (d_times : Ok P w K mg base 4 "times" ["left", "right"] (spBin (fun x y => x * y) noC)) (d_floor_of : Ok P w K mg base 4 "floor_of" ["value"] spFloor) (d_over : Ok P w K mg base 4 "over" ["left", "right"] (spBin (fun x y => x / y) nzC)) (d_minus : Ok P w K mg base 4 "minus" ["left", "right"] (spBin (fun x y => x - y) noC))  : Ok P w K mg base 5 "next_step" ["first", "interval", "moment"] spNext := by
  obtain ⟨fd, F⟩ := T.f_next_step
  have sc := sc_next_step
  refine okFN (F := F) T.g_next_step F.kp (F.bindsN fun _ _ _ _ _ _ us hl => match us, hl with | [_, _, _], _ => rfl) sc sp3_len (fun cdv A outer s H vs Q E hr h => ?_)
  obtain ⟨u, v, z, rfl, h⟩ := h
  refine ⟨_, (pss_cons (ps_set (i := 3) sc.nd rfl (Or.inl rfl) (pe_un un_neg (pe_f d_floor_of (hr.mono (by decide)) rfl passL (pa_cons (pe_f d_over (hr.mono (by decide)) rfl passL (pa_cons (pe_f d_minus (hr.mono (by decide)) rfl passL (pa_cons (pv 0) (pa_cons (pv 2) pa_nil))) (pa_cons (pv 1) pa_nil))) pa_nil))))
      (pss_one (ps_ret (pe_f d_plus (hr.mono (by decide)) rfl passL (pa_cons (pv 0) (pa_cons (pe_f d_times (hr.mono (by decide)) rfl passL (pa_cons (pe_tup (pa_cons (pv 3) (pa_cons pe_int pa_nil))) (pa_cons (pv 1) pa_nil))) pa_nil)))))), ?_⟩
  obtain ⟨x, y, a, hx, hy, ha, bx, by_, ba, py, h⟩ := h
  have ny : y ≠ 0 := by grind
  refine ⟨_, rfl, _, rfl, _, _, rfl, x, a, hx, ha, bx.mono (by decide), ba.mono (by decide), trivial, fun p hp => ?_⟩
  have s1 := same_new (o := frO (x - a)) hp
  refine ⟨_, rfl, _, _, rfl, x - a, y, ⟨p, rfl, upd_same⟩, hy.mono s1, (bx.sub ba).mono (by decide), by_.mono (by decide), ny, fun q hq => ?_⟩
  have s2 := Same.new (o := frO ((x - a) / y)) s1 hq
  refine ⟨_, rfl, (x - a) / y, ⟨q, rfl, upd_same⟩, ((bx.sub ba).div by_ ny).mono (by decide), ?_⟩
  refine ⟨_, rfl, ?_⟩
  refine ⟨_, rfl, _, rfl, line2, fun r hr => ?_⟩
  have s3 := Same.new (o := frO ((loK x y a : Int) : Rat)) s2 hr
  have bl := loK_lt bx by_ ba py
  refine ⟨_, rfl, _, _, rfl, ((loK x y a : Int) : Rat), y, ⟨r, rfl, upd_same⟩, hy.mono s3, (Sz.int bl (by decide)).mono (by decide), by_.mono (by decide), trivial, fun t ht => ?_⟩
  have s4 := Same.new (o := frO (((loK x y a : Int) : Rat) * y)) s3 ht
  exact ⟨_, _, rfl, x, ((loK x y a : Int) : Rat) * y, hx.mono s4, ⟨t, rfl, upd_same⟩, bx.mono (by decide), ((Sz.int bl (by decide)).mul by_).mono (by decide), trivial, fun r hr => Gv.at h s4 hr⟩
end
end Wk
set_option maxHeartbeats 4000000
namespace Wk
open PySem PySem.Spec PyProof.Rows L2
section
variable {P : Program} {w : World} {K : PySem.W.Frag} {mg : Str → Option Value} {base : Heap}
/-! ### the steps within a span -/
def spSteps (K : PySem.W.Frag) : Sp := sp3 fun f i s H Q E => ∃ x y a b, FrV H f x ∧ FrV H i y ∧ SpanV K H s a b ∧ Sz 600 x ∧ Sz 600 y ∧ Sz 600 a ∧ Sz 600 b ∧ 0 < y ∧ GvRes K H Q E (stepsRes x y a b)
theorem sgn_pos {x y : Rat} : (0 : Int) < sgn x y ↔ y < x := by
  unfold sgn
  by_cases h : x < y
  · rw [if_pos h]
    have : ¬ y < x := by grind
    simp [this]
  · rw [if_neg h]
    by_cases h2 : y < x
    · rw [if_pos h2]; simp [h2]
    · rw [if_neg h2]; simp [h2]
/-- the i-th step's size -/
theorem step_sz {x y : Rat} {k : Int} (bx : Sz 600 x) (by_ : Sz 600 y) (hk : k.natAbs < 2 ^ 1812) : Sz 3100 (x + (k : Rat) * y) := (bx.add ((Sz.int hk (by decide)).mul by_)).mono (by decide)
theorem lo_step {k : Int} {i : Nat} (hk : k.natAbs < 2 ^ 1802) (hi : i ≤ 400) : (k + (i : Int)).natAbs < 2 ^ 1812 := by
  have e : (2 : Nat) ^ 1812 = 2 ^ 1802 * 2 ^ 10 := by rw [← Nat.pow_add]
  have e2 : (2 : Nat) ^ 10 = 1024 := by decide
  have : 0 < (2 : Nat) ^ 1802 := Nat.two_pow_pos _
  rw [e, e2]
  omega
theorem step_next (x y : Rat) (k : Int) (i : Nat) : x + ((k + (i : Int) : Int) : Rat) * y + y = x + ((k + ((i + 1 : Nat) : Int) : Int) : Rat) * y := by
  push_cast
  grind
theorem listK_get {f I : Rat} {lo hi : Int} {j : Nat} (h : j < (hi + 1 - lo).toNat) : (listK f I lo hi)[j]? = some (f + ((lo + (j : Int) : Int) : Rat) * I) := by
  unfold listK
  rw [List.getElem?_map, List.getElem?_range h]; rfl
theorem listK_len {f I : Rat} {lo hi : Int} : (listK f I lo hi).length = (hi + 1 - lo).toNat := by simp [listK]
theorem line1 {v : V} : ([v] : List V).length ≤ sizeLine := by show 1 ≤ sizeLine; decide
theorem FrX.snoc {H : Hp} {xs : List V} {rs : List Rat} {v : V} {r : Rat} (h : FrX H xs rs) (hv : FrV H v r) : FrX H (xs ++ [v]) (rs ++ [r]) := by
  refine ⟨by simp [h.len], fun i x e => ?_⟩
  by_cases c : i < xs.length
  · rw [List.getElem?_append_left c] at e
    obtain ⟨q, a, b⟩ := h.at_ i x e
    exact ⟨q, by rw [List.getElem?_append_left (by rw [← h.len]; exact c)]; exact a, b⟩
  · have : i = xs.length := by
      have := (List.getElem?_eq_some_iff.mp e).1
      simp at this
      omega
    subst this
    rw [List.getElem?_append_right (Nat.le_refl _)] at e
    simp at e
    subst e
    exact ⟨r, by rw [h.len, List.getElem?_append_right (Nat.le_refl _)]; simp, hv⟩
theorem listK_snoc {f I : Rat} {lo : Int} {i : Nat} : listK f I lo (lo + ((i + 1 : Nat) : Int)) = listK f I lo (lo + (i : Int)) ++ [f + ((lo + ((i + 1 : Nat) : Int) : Int) : Rat) * I] := by
  unfold listK
  have e1 : (lo + ((i + 1 : Nat) : Int) + 1 - lo).toNat = i + 2 := by omega
  have e2 : (lo + (i : Int) + 1 - lo).toNat = i + 1 := by omega
  rw [e1, e2, List.range_succ, List.map_append]
  rfl
theorem listK_one {f I : Rat} {lo : Int} : listK f I lo (lo + ((0 : Nat) : Int)) = [f + (lo : Rat) * I] := by
  unfold listK
  have e1 : (lo + ((0 : Nat) : Int) + 1 - lo).toNat = 1 := by omega
  rw [e1]
  show [f + ((lo + ((0 : Nat) : Int) : Int) : Rat) * I] = _
  simp
theorem FrX.one {H : Hp} {v : V} {r : Rat} (h : FrV H v r) : FrX H [v] [r] := (FrX.mk (H := H) (xs := []) (rs := []) rfl (fun i x e => by cases e)).snoc h
theorem FrX.upd {H : Hp} {l : Addr} {xs ys zs : List V} {rs : List Rat} (h : FrX H xs rs) (hl : H l = some (.lst ys)) : FrX (upd H l (.lst zs)) xs rs := h.monoL (SameL.upd hl)
abbrev N_steps_within : List Str := ["first", "interval", "span", "moment", "more", "found", "spare"]
theorem sc_steps_within : FnScope N_steps_within ["first", "interval", "span"] (defScope S_steps_within) := ⟨rfl, rfl, rfl, by decide +kernel, rfl, by decide +kernel, by decide +kernel⟩
theorem ok_steps_within (T : Tx K mg) (d_plus : Ok P w K mg base 4 "plus" ["left", "right"] (spBin (fun x y => x + y) noC)) (d_TooMany_init : OkM P w K mg base 1 "TooMany" "__init__" ["self", "limit"] (spErr K "TooMany" "limit")) (d_floor_of : Ok P w K mg base 4 "floor_of" ["value"] spFloor) (d_over : Ok P w K mg base 4 "over" ["left", "right"] (spBin (fun x y => x / y) nzC)) (d_minus : Ok P w K mg base 4 "minus" ["left", "right"] (spBin (fun x y => x - y) noC)) (d_compare : Ok P w K mg base 4 "compare" ["left", "right"] spCmp) (d_next_step : Ok P w K mg base 5 "next_step" ["first", "interval", "moment"] spNext)  : Ok P w K mg base 6 "steps_within" ["first", "interval", "span"] (spSteps K) := by
  obtain ⟨fd, F⟩ := T.f_steps_within
  have sc := sc_steps_within
  refine okFX (F := F) T.g_steps_within F.kp (F.bindsN fun _ _ _ _ _ _ us hl => match us, hl with | [_, _, _], _ => rfl) sc sp3_len (fun cdv A outer s H vs Q E hr h => ?_)
  obtain ⟨u, v, z, rfl, h⟩ := h
  refine ⟨_, (pss_cons (ps_set (i := 3) sc.nd rfl (Or.inl rfl) (pe_f d_next_step (hr.mono (by decide)) rfl (passes_call (takes_of rfl rfl rfl rfl) fun _ _ _ _ z => z) (pa_cons (pv 0) (pa_cons (pv 1) (pa_cons (pe_fld (pv 2) rfl) pa_nil)))))
      (pss_cons (ps_if (pt_cmpR op_gt (pe_f d_compare (hr.mono (by decide)) rfl (passes_call (takes_of rfl rfl rfl rfl) fun _ _ _ _ z => z) (pa_cons (pv 3) (pa_cons (pe_fld (pv 2) rfl) pa_nil))) pe_int (nomark _)) (pss_one (ps_ret (pe_lst pa_nil))) pss_nil)
      (pss_cons (ps_set (i := 4) sc.nd rfl (Or.inl rfl) (pe_f d_floor_of (hr.mono (by decide)) rfl (passes_call (takes_of rfl rfl rfl rfl) fun _ _ _ _ z => z) (pa_cons (pe_f d_over (hr.mono (by decide)) rfl (passes_call (takes_of rfl rfl rfl rfl) fun _ _ _ _ z => z) (pa_cons (pe_f d_minus (hr.mono (by decide)) rfl (passes_call (takes_of rfl rfl rfl rfl) fun _ _ _ _ z => z) (pa_cons (pe_fld (pv 2) rfl) (pa_cons (pv 3) pa_nil))) (pa_cons (pv 1) pa_nil))) pa_nil)))
      (pss_cons (ps_if (pt_cmpR op_gt (pe_op op_add (pv 4) pe_int) (pe_glob (v := .int 400) rfl (T.i_MOST_MOMENTS).choose_spec ⟨_, rfl⟩) (nomark _)) (pss_one (ps_raise rfl (takes_of rfl rfl rfl rfl) (pmk_oex T.o_TooMany T.t_TooMany_init.at_ (tyFn T.t_TooMany_init.fn) d_TooMany_init.fn (hr.mono (by decide)) d_TooMany_init.b .nil passL rfl T.g_TooMany (pa_cons (pe_glob (v := .int 400) rfl (T.i_MOST_MOMENTS).choose_spec ⟨_, rfl⟩) pa_nil)))) pss_nil)
      (pss_cons (ps_set (i := 5) sc.nd rfl (Or.inl rfl) (pe_lst (pa_cons (pv 3) pa_nil)))
      (pss_cons (ps_for (passes_of rfl) rfl (pi_range1 (by rfl) T.b_range (pa_cons (pv 4) pa_nil)) (pg_name (i := 6) sc.nd rfl (Or.inl rfl)) (pss_cons (ps_set (i := 3) sc.nd rfl (Or.inl rfl) (pe_f d_plus (hr.mono (by decide)) rfl (passes_call (takes_of rfl rfl rfl rfl) fun _ _ _ _ z => z) (pa_cons (pv 3) (pa_cons (pv 1) pa_nil))))
      (pss_one (ps_expr (pe_bm PySem.F.plainAttrs_list PySem.F.slot_list_append PySem.F.type_list_append mt_append (pv 5) (pa_cons (pv 3) pa_nil))))))
      (pss_one (ps_ret (pv 5))))))))), ?_⟩
  obtain ⟨x, y, a, b, hx, hy, ⟨sp, dx, fa, fb, fl, rfl, hp, ha, hb⟩, bx, by_, ba, bb, py, h⟩ := h
  have ny : y ≠ 0 := by grind
  have bl := loK_lt bx by_ ba py
  have lt := late_iff (f := x) (a := a) (b := b) py
  have mo := more_eq (f := x) (a := a) (b := b) py
  generalize hlo : loK x y a = lo at *
  generalize hhi : hiK x y b = hi at *
  have m0 : Sz 3100 (x + (lo : Rat) * y) := step_sz bx by_ (by have := lo_step (i := 0) bl (by decide); simpa using this)
  refine ⟨_, rfl, _, rfl, _, rfl, sp, _, dx, _, _, rfl, hp, T.c_Span, T.n_Span_first, rfl, _, _, _, rfl, x, y, a, hx, hy, ha, bx, by_, ba, py, ?_⟩
  rw [hlo]
  intro m H1 s1 hm
  have hy1 := hy.mono s1
  have hb1 := hb.mono s1
  refine ⟨_, rfl, _, rfl, sp, _, dx, _, _, rfl, s1 sp _ hp, T.c_Span, T.n_Span_last, rfl, _, _, rfl, x + (lo : Rat) * y, b, ⟨m, rfl, hm⟩, hb1, m0.mono (by decide), bb.mono (by decide), ?_⟩
  refine ⟨_, _, rfl, rfl, _, rfl, ifD (fun c => ?_) (fun c => ?_)⟩
  · have c2 := lt.mp (sgn_pos.mp c)
    have e : stepsRes x y a b = .told [] := by
      unfold stepsRes
      rw [hlo, hhi, if_neg (by omega)]
      have : (hi + 1 - lo).toNat = 0 := by omega
      unfold listK
      rw [this]; rfl
    rw [e] at h
    refine ⟨by decide, fun p hp => ?_⟩
    exact h p [] _ (Same.new s1 hp) upd_same ⟨rfl, fun i x e => by cases e⟩
  · have c2 : lo ≤ hi := Int.not_lt.mp fun z => c (sgn_pos.mpr (lt.mpr z))
    refine ⟨_, rfl, sp, _, dx, _, _, rfl, s1 sp _ hp, T.c_Span, T.n_Span_last, rfl, _, rfl, _, _, rfl, b, x + (lo : Rat) * y, hb1, ⟨m, rfl, hm⟩, bb.mono (by decide), m0.mono (by decide), trivial, fun q hq => ?_⟩
    have s2 := Same.new (o := frO (b - (x + (lo : Rat) * y))) s1 hq
    have bd : Sz 3701 (b - (x + (lo : Rat) * y)) := bb.sub m0
    refine ⟨_, rfl, _, _, rfl, _, y, ⟨q, rfl, upd_same⟩, hy.mono s2, bd.mono (by decide), by_.mono (by decide), ny, fun r hr => ?_⟩
    have s3 := Same.new (o := frO ((b - (x + (lo : Rat) * y)) / y)) s2 hr
    refine ⟨_, rfl, _, ⟨r, rfl, upd_same⟩, (bd.div by_ ny).mono (by decide), ?_⟩
    rw [mo]
    refine ⟨_, rfl, _, _, rfl, rfl, _, _, rfl, rfl, _, rfl, ifD (fun d => ?_) (fun d => ?_)⟩
    · have d : (400 : Int) < hi - lo + 1 := d
      have e : stepsRes x y a b = .many := by
        unfold stepsRes
        rw [hlo, hhi, if_pos (by omega)]
      rw [e] at h
      exact rz_of (Rz.at h s3)
    · have d : ¬ (400 : Int) < hi - lo + 1 := d
      have e : stepsRes x y a b = .told (listK x y lo hi) := by
        unfold stepsRes
        rw [hlo, hhi, if_neg (by omega)]
      rw [e] at h
      refine ⟨_, rfl, line1, fun l hl => ?_⟩
      have s4 := Same.new (o := .lst [.ref m]) s3 hl
      have l0 : H l = none := none_of s3 hl
      refine ⟨_, rfl, hi - lo, rfl, by omega, by omega, ?_⟩
      refine for_range (fun i σ H' => ∃ (mv : V) (xs : List V) (o6 : Option V), σ = [some u, some v, some (.ref sp), some mv, some (.int (hi - lo)), some (.ref l), o6] ∧ Same H H' ∧ FrV H' mv (x + ((lo + (i : Int) : Int) : Rat) * y) ∧ H' l = some (.lst xs) ∧ FrX H' xs (listK x y lo (lo + (i : Int)))) ?_ ?_ ?_
      · have f1 : FrV (upd (upd (upd H1 q (frO (b - (x + (lo : Rat) * y)))) r (frO ((b - (x + (lo : Rat) * y)) / y))) l (.lst [.ref m])) (.ref m) (x + (lo : Rat) * y) := (FrV.mono ⟨m, rfl, hm⟩ (Same.new (same_new hq) hr)).mono (same_new hl)
        refine ⟨_, _, _, rfl, s4, ?_, upd_same, ?_⟩
        · simpa using f1
        · rw [listK_one]; exact FrX.one f1
      · rintro i σ H2 hin ⟨mv, xs, o6, rfl, sm, fm, hl2, fx⟩
        have bm : Sz 3100 (x + ((lo + (i : Int) : Int) : Rat) * y) := step_sz bx by_ (lo_step bl (by omega))
        refine ⟨_, rfl, _, rfl, _, _, rfl, _, y, fm, hy.mono sm, bm.mono (by decide), by_.mono (by decide), trivial, fun p hp => ?_⟩
        have sp2 := Same.new (o := frO (x + ((lo + (i : Int) : Int) : Rat) * y + y)) sm hp
        have hl3 := same_new (o := frO (x + ((lo + (i : Int) : Int) : Rat) * y + y)) hp l _ hl2
        have xl := fx.len
        rw [listK_len] at xl
        refine ⟨_, rfl, tyL hl3, _, rfl, l, xs, _, rfl, rfl, hl3, Nat.lt_of_le_of_lt (show xs.length ≤ 401 by omega) (show 401 < sizeLine by decide), ?_⟩
        have fp : FrV (upd (upd H2 p (frO (x + ((lo + (i : Int) : Int) : Rat) * y + y))) l (.lst (xs ++ [.ref p]))) (.ref p) (x + ((lo + ((i + 1 : Nat) : Int) : Int) : Rat) * y) := by
          rw [← step_next]
          exact FrV.monoL ⟨p, rfl, upd_same⟩ (SameL.upd hl3)
        refine ⟨_, _, _, rfl, Same.own l0 sp2, fp, upd_same, ?_⟩
        rw [listK_snoc]
        exact ((fx.mono (same_new hp)).upd hl3).snoc fp
      · rintro σ H2 ⟨mv, xs, o6, rfl, sm, fm, hl2, fx⟩
        have e2 : lo + (((hi - lo).toNat : Nat) : Int) = hi := by omega
        rw [e2] at fx
        exact ⟨_, rfl, h l xs H2 sm hl2 fx⟩
end
end Wk
set_option maxHeartbeats 4000000
namespace Wk
open PySem PySem.Spec PyProof.Rows L2
section
variable {P : Program} {w : World} {K : PySem.W.Frag} {mg : Str → Option Value} {base : Heap}
/-! ### fractions as data -/
def dtF (x : Rat) : PyData := .tuple [.int x.num, .int (x.den : Int)]
theorem dp_fr {H : Hp} {v : V} {x : Rat} (h : FrV H v x) : Dp K H v (dtF x) := by
  obtain ⟨a, rfl, h⟩ := h
  exact .tup (sq2 h) (.cons (.int _) (.cons (.int _) .nil))
theorem shp_fr (x : Rat) : SeqAt.shaped (dtF x) = true := rfl
theorem eqv_fr (x y : Rat) : PyData.eqv (dtF x) (dtF y) = decide (x = y) := by
  have h : PyData.eqv (dtF x) (dtF y) = (decide (x.num = y.num) && decide ((x.den : Int) = (y.den : Int))) := by
    simp [dtF, PyData.eqv, PyData.eqvAll]
    rfl
  rw [h]
  by_cases e : x = y
  · subst e; simp
  · rw [decide_eq_false e]
    have : ¬ (x.num = y.num ∧ (x.den : Int) = (y.den : Int)) := fun ⟨a, b⟩ => e (Rat.ext a (by omega))
    simp only [Bool.and_eq_false_iff, decide_eq_false_iff_not]
    by_cases c : x.num = y.num
    · exact .inr fun b => this ⟨c, b⟩
    · exact .inl c
/-! ### cycles -/
def spCyInit (K : PySem.W.Frag) : Sp := sp3 fun s r t H Q _ => ∃ p dx, ∃ d : Rw, s = .ref p ∧ H p = some (.ins (ga K "Cycle") dx []) ∧ FrV H r d.1 ∧ FrV H t d.2 ∧ 0 ≤ d.2 ∧ d.2 < 1 ∧
  ∀ H', SameX p H H' → CycA K H' p d → Q .non H'
theorem dvs_cy {K : PySem.W.Frag} : He.DefD.dvs K D_Cycle_init = [V.ref (dflCy K)] := rfl
theorem bind_cy {K : PySem.W.Frag} {fd : FuncData} (F : FnP K D_Cycle_init fd) : Binds K fd ["self", "rate", "start"] [] := by
  obtain ⟨ds, hv, hb⟩ := FunD.binds1 F (ps := ["self", "rate", "start"]) 3 1 (by rw [dvs_cy]; simp) rfl (fun T kV doc pm an cdv ct us its h1 h2 => match us, its, h1, h2 with | [a, b, c], [d], _, _ => ⟨_, rfl, by with_unfolding_all rfl⟩)
  rw [dvs_cy] at hv
  cases hv
  exact hb
abbrev N_Cycle_init : List Str := ["self", "rate", "start"]
theorem sc_Cycle_init : FnScope N_Cycle_init ["self", "rate", "start"] (defScope S_Cycle_init) := ⟨rfl, rfl, rfl, by decide +kernel, rfl, by decide +kernel, by decide +kernel⟩
theorem ok_Cycle_init (T : Tx K mg) (d_need_place : Ok P w K mg base 3 "need_place" ["value", "what"] spNeedPl) (d_need_fraction : Ok P w K mg base 3 "need_fraction" ["value", "what"] spNeedFr)  : OkM P w K mg base 4 "Cycle" "__init__" ["self", "rate", "start"] (spCyInit K) := by
  obtain ⟨fd, F⟩ := T.f_Cycle_init
  have sc := sc_Cycle_init
  refine okMN (F := F)  (bind_cy F) sc sp3_len (fun cdv A outer s H vs Q E hr h => ?_)
  obtain ⟨u, v, z, rfl, h⟩ := h
  refine ⟨_, (pss_cons (ps_expr (pe_f d_need_fraction (hr.mono (by decide)) rfl passL (pa_cons (pv 1) (pa_cons pe_str pa_nil))))
      (pss_cons (ps_expr (pe_f d_need_place (hr.mono (by decide)) rfl passL (pa_cons (pv 2) (pa_cons pe_str pa_nil))))
      (pss_cons (ps_fld (pv 0) (pv 1) rfl)
      (pss_cons (ps_fld (pv 0) (pv 2) rfl)
      (pss_one (ps_fld (pv 0) (pe_ifExp (pt_cmpR op_eq (pe_ix ix_tup (pv 1) pe_int (fun _ _ => rfl)) pe_int (nomark _)) pe_non (pe_tup (pa_cons (pe_ix ix_tup (pv 1) pe_int (fun _ _ => rfl)) (pa_cons (pe_callB call_abs (by rfl) T.b_abs (by decide +kernel) (pa_cons (pe_ix ix_tup (pv 1) pe_int (fun _ _ => rfl)) pa_nil)) pa_nil)))) rfl)))))), ?_⟩
  obtain ⟨p, dx, d, rfl, hp, ha, hb, h0, h1, h⟩ := h
  refine ⟨_, rfl, _, _, rfl, d.1, ha, ?_⟩
  refine ⟨_, rfl, _, _, rfl, d.2, hb, h0, h1, ?_⟩
  refine ⟨_, rfl, _, rfl, p, _, dx, _, rfl, hp, T.c_Cycle, T.n_Cycle_rate, by decide, ?_⟩
  refine ⟨_, rfl, _, rfl, p, _, dx, _, rfl, upd_same, T.c_Cycle, T.n_Cycle_start, pl1, ?_⟩
  have s2 := (sameX_upd (H := H) (p := p) (o := .ins (ga K "Cycle") dx (putF "rate" v []))).trans (sameX_upd (o := .ins (ga K "Cycle") dx (putF "start" z (putF "rate" v []))))
  have ha2 := ha.monoX hp s2
  have hb2 := hb.monoX hp s2
  obtain ⟨fa, rfl, fh⟩ := id ha2
  refine ⟨_, rfl, _, _, _, _, rfl, rfl, sq2 fh, at_0, rfl, _, rfl, ifEq (fun e => ?_) (fun e => ?_)⟩
  · refine ⟨_, rfl, p, _, dx, _, rfl, upd_same, T.c_Cycle, T.n_Cycle_period, pl2, ?_⟩
    exact h _ (s2.trans sameX_upd) ⟨dx, _, _, _, upd_same, ha2.monoX upd_same sameX_upd, hb2.monoX upd_same sameX_upd, .inl ⟨Rat.num_eq_zero.mp e, rfl⟩⟩
  · refine ⟨_, rfl, _, _, _, _, rfl, rfl, sq2 fh, at_1, _, rfl, _, _, _, _, rfl, rfl, sq2 fh, at_0, _, rfl, line2, fun q hq => ?_⟩
    have r0 : d.1 ≠ 0 := fun z => e (by rw [z]; rfl)
    have e3 := frO_per r0
    have s3 := same_new (o := frO (absR (1 / d.1))) hq
    rw [← e3]
    have hp3 := s3 p _ upd_same
    refine ⟨_, rfl, p, _, dx, _, rfl, hp3, T.c_Cycle, T.n_Cycle_period, pl2, ?_⟩
    exact h _ ((s2.trans (SameX.of s3)).trans sameX_upd) ⟨dx, _, _, _, upd_same, (ha2.mono s3).monoX hp3 sameX_upd, (hb2.mono s3).monoX hp3 sameX_upd, .inr ⟨r0, FrV.monoX ⟨q, rfl, upd_same⟩ hp3 sameX_upd⟩⟩
def rCyEq (K : PySem.W.Frag) (a b : Addr) (H : Hp) : Prop := ∃ d, CycA K H a d ∧ CycA K H b d
theorem spEq_len {R : Addr → Addr → Hp → Prop} : ∀ vs H Q E, spEq R vs H Q E → vs.length = 2 := fun vs H Q E h => by obtain ⟨_, _, rfl, _⟩ := h; rfl
abbrev N_Cycle_eq : List Str := ["self", "other"]
theorem sc_Cycle_eq : FnScope N_Cycle_eq ["self", "other"] (defScope S_Cycle_eq) := ⟨rfl, rfl, rfl, by decide +kernel, rfl, by decide +kernel, by decide +kernel⟩
theorem ok_Cycle_eq (T : Tx K mg)   : OkM P w K mg base 1 "Cycle" "__eq__" ["self", "other"] (spEq (rCyEq K)) := by
  obtain ⟨fd, F⟩ := T.f_Cycle_eq
  have sc := sc_Cycle_eq
  refine okMN (F := F)  (F.bindsN fun _ _ _ _ _ _ us hl => match us, hl with | [_, _], _ => rfl) sc spEq_len (fun cdv A outer s H vs Q E hr h => ?_)
  obtain ⟨a, b, rfl, h⟩ := h
  refine ⟨_, (pss_one (ps_ret (pe_and (pe_callB call_isi (by rfl) T.b_isinstance (by decide +kernel) (pa_cons (pv 1) (pa_cons (pe_glob (v := .ref (ga K "Cycle")) rfl T.g_Cycle rfl) pa_nil))) (pe_and (pe_cmpR (op_eqD hr.units) (pe_fld (pv 0) rfl) (pe_fld (pv 1) rfl) (nomark _)) (pe_one (pe_cmpR (op_eqD hr.units) (pe_fld (pv 0) rfl) (pe_fld (pv 1) rfl) (nomark _))))))), ?_⟩
  obtain ⟨⟨d, ha, hb⟩, h⟩ := h
  obtain ⟨dx, fa, fs, fp, ea, ra, sa, _⟩ := ha
  obtain ⟨dy, ga_, gs, gp, eb, rb, sb, _⟩ := hb
  refine ⟨_, rfl, _, _, _, _, true, rfl, .own _, .base (.ins eb T.c_Cycle T.j_Cycle.cl T.oc_get T.oc_tak T.j_Cycle.hm), k_own, true, rfl, ?_⟩
  refine iteT ?_
  refine ⟨_, rfl, a, _, dx, _, _, rfl, ea, T.c_Cycle, T.n_Cycle_rate, rfl, _, rfl, b, _, dy, _, _, rfl, eb, T.c_Cycle, T.n_Cycle_rate, rfl, dtF d.1, dtF d.1, dp_fr ra, dp_fr rb, shp_fr _, shp_fr _, ?_⟩
  rw [eqv_fr, decide_eq_true rfl]
  refine ⟨true, rfl, iteT ?_⟩
  refine ⟨_, rfl, a, _, dx, _, _, rfl, ea, T.c_Cycle, T.n_Cycle_start, rfl, _, rfl, b, _, dy, _, _, rfl, eb, T.c_Cycle, T.n_Cycle_start, rfl, dtF d.2, dtF d.2, dp_fr sa, dp_fr sb, shp_fr _, shp_fr _, ?_⟩
  rw [eqv_fr, decide_eq_true rfl]
  exact h H Same.rfl'
/-- a - b -/
def spCySub (K : PySem.W.Frag) : Sp := sp2 fun a b H Q _ => ∃ p q d e, a = .ref p ∧ b = .ref q ∧ CycA K H p d ∧ CycA K H q e ∧ Big d.1 ∧ Big d.2 ∧ Big e.1 ∧ Big e.2 ∧ ∀ r H', Same H H' → CycA K H' r (d.1 - e.1, fr (d.2 - e.2)) → Q (.ref r) H'
abbrev N_Cycle_sub : List Str := ["self", "other"]
theorem sc_Cycle_sub : FnScope N_Cycle_sub ["self", "other"] (defScope S_Cycle_sub) := ⟨rfl, rfl, rfl, by decide +kernel, rfl, by decide +kernel, by decide +kernel⟩
theorem ok_Cycle_sub (T : Tx K mg) (d_Cycle_init : OkM P w K mg base 4 "Cycle" "__init__" ["self", "rate", "start"] (spCyInit K)) (d_part_of : Ok P w K mg base 4 "part_of" ["value"] spPart) (d_minus : Ok P w K mg base 4 "minus" ["left", "right"] (spBin (fun x y => x - y) noC))  : OkM P w K mg base 6 "Cycle" "__sub__" ["self", "other"] (spCySub K) := by
  obtain ⟨fd, F⟩ := T.f_Cycle_sub
  have sc := sc_Cycle_sub
  refine okMN (F := F)  (F.bindsN fun _ _ _ _ _ _ us hl => match us, hl with | [_, _], _ => rfl) sc sp2_len (fun cdv A outer s H vs Q E hr h => ?_)
  obtain ⟨u, v, rfl, h⟩ := h
  refine ⟨_, (pss_one (ps_ret (pe_make T.m_Cycle d_Cycle_init.fn (hr.mono (by decide)) rfl T.g_Cycle d_Cycle_init.b .nil passL (pa_cons (pe_f d_minus (hr.mono (by decide)) rfl passL (pa_cons (pe_fld (pv 0) rfl) (pa_cons (pe_fld (pv 1) rfl) pa_nil))) (pa_cons (pe_f d_part_of (hr.mono (by decide)) rfl passL (pa_cons (pe_f d_minus (hr.mono (by decide)) rfl passL (pa_cons (pe_fld (pv 0) rfl) (pa_cons (pe_fld (pv 1) rfl) pa_nil))) pa_nil)) pa_nil))))), ?_⟩
  obtain ⟨a, b, d, e, rfl, rfl, ha, hb, b1, b2, b3, b4, h⟩ := h
  obtain ⟨dx, fa, fs, fp, ea, ra, sa, _⟩ := ha
  obtain ⟨dy, ga_, gs, gp, eb, rb, sb, _⟩ := hb
  refine ⟨_, rfl, a, _, dx, _, _, rfl, ea, T.c_Cycle, T.n_Cycle_rate, rfl, _, rfl, b, _, dy, _, _, rfl, eb, T.c_Cycle, T.n_Cycle_rate, rfl, _, _, rfl, d.1, e.1, ra, rb, b1, b3, trivial, fun p hp => ?_⟩
  have s1 := same_new (o := frO (d.1 - e.1)) hp
  refine ⟨_, rfl, a, _, dx, _, _, rfl, s1 _ _ ea, T.c_Cycle, T.n_Cycle_start, rfl, _, rfl, b, _, dy, _, _, rfl, s1 _ _ eb, T.c_Cycle, T.n_Cycle_start, rfl, _, _, rfl, d.2, e.2, sa.mono s1, sb.mono s1, b2, b4, trivial, fun q hq => ?_⟩
  have s2 := Same.new (o := frO (d.2 - e.2)) s1 hq
  refine ⟨_, rfl, d.2 - e.2, ⟨q, rfl, upd_same⟩, fun r hr => ?_⟩
  have s3 := Same.new (o := frO (fr (d.2 - e.2))) s2 hr
  have f1 : FrV (upd (upd (upd H p (frO (d.1 - e.1))) q (frO (d.2 - e.2))) r (frO (fr (d.2 - e.2)))) (.ref p) (d.1 - e.1) := (FrV.mono ⟨p, rfl, upd_same⟩ (same_new hq)).mono (same_new hr)
  have f2 : FrV (upd (upd (upd H p (frO (d.1 - e.1))) q (frO (d.2 - e.2))) r (frO (fr (d.2 - e.2)))) (.ref r) (fr (d.2 - e.2)) := ⟨r, rfl, upd_same⟩
  intro x dz hx hd hne
  have sm := same_made (o := .ins (ga K "Cycle") dz []) (o' := .own x) hx hd
  refine ⟨_, _, _, rfl, x, dz, (d.1 - e.1, fr (d.2 - e.2)), rfl, upd_same, f1.mono sm, f2.mono sm, fr_nn _, fr_lt _, fun H' sx hc => ⟨rfl, ?_⟩⟩
  exact h x H' (Same.trans' s3 (made hx hd sx)) hc
def spVisits (K : PySem.W.Frag) : Sp := sp3 fun s p sp H Q E => ∃ c d a b, s = .ref c ∧ CycA K H c d ∧ FrV H p 0 ∧ SpanV K H sp a b ∧ Sz 250 d.1 ∧ Sz 250 d.2 ∧ Sz 600 a ∧ Sz 600 b ∧ GvRes K H Q E (visitsRes d a b)
theorem per_sz {n : Nat} {r : Rat} (h : Sz n r) (h0 : 0 < n) (hr : r ≠ 0) : Sz (1 + n) (absR (1 / r)) := Sz.absR (Sz.div (n := 1) ⟨by decide, by decide⟩ h hr)
abbrev N_Cycle_visits : List Str := ["self", "place", "span"]
theorem sc_Cycle_visits : FnScope N_Cycle_visits ["self", "place", "span"] (defScope S_Cycle_visits) := ⟨rfl, rfl, rfl, by decide +kernel, rfl, by decide +kernel, by decide +kernel⟩
theorem ok_Cycle_visits (T : Tx K mg) (d_steps_within : Ok P w K mg base 6 "steps_within" ["first", "interval", "span"] (spSteps K)) (d_over : Ok P w K mg base 4 "over" ["left", "right"] (spBin (fun x y => x / y) nzC)) (d_minus : Ok P w K mg base 4 "minus" ["left", "right"] (spBin (fun x y => x - y) noC)) (d_need_span : Ok P w K mg base 1 "need_span" ["value", "what"] (spNeedSp K)) (d_need_place : Ok P w K mg base 3 "need_place" ["value", "what"] spNeedPl)  : OkM P w K mg base 7 "Cycle" "visits" ["self", "place", "span"] (spVisits K) := by
  obtain ⟨fd, F⟩ := T.f_Cycle_visits
  have sc := sc_Cycle_visits
  refine okMX (F := F)  (F.bindsN fun _ _ _ _ _ _ us hl => match us, hl with | [_, _, _], _ => rfl) sc sp3_len (fun cdv A outer s H vs Q E hr h => ?_)
  obtain ⟨u, v, z, rfl, h⟩ := h
  refine ⟨_, (pss_cons (ps_expr (pe_f d_need_place (hr.mono (by decide)) rfl (passes_call (takes_of rfl rfl rfl rfl) fun _ _ _ _ z => z) (pa_cons (pv 1) (pa_cons pe_str pa_nil))))
      (pss_cons (ps_expr (pe_f d_need_span (hr.mono (by decide)) rfl (passes_call (takes_of rfl rfl rfl rfl) fun _ _ _ _ z => z) (pa_cons (pv 2) (pa_cons pe_str pa_nil))))
      (pss_cons (ps_if (pt_cmpR op_isN (pe_fld (pv 0) rfl) pe_non (nomark _)) (pss_cons (ps_if (pt_cmpR (op_eqD hr.units) (pe_fld (pv 0) rfl) (pv 1) (nomark _)) (pss_one (ps_raise rfl (takes_of rfl rfl rfl rfl) (pmk_own0 PySem.F.excBase_ValueError T.e_Endless.1 T.g_Endless T.e_Endless.2.1 (raises_own T.e_Endless.2.2.1 T.e_Endless.2.2.2) (by exact rfl)))) pss_nil)
      (pss_one (ps_ret (pe_lst pa_nil)))) pss_nil)
      (pss_one (ps_ret (pe_f d_steps_within (hr.mono (by decide)) rfl (passes_call (takes_of rfl rfl rfl rfl) fun _ _ _ _ z => z) (pa_cons (pe_f d_over (hr.mono (by decide)) rfl (passes_call (takes_of rfl rfl rfl rfl) fun _ _ _ _ z => z) (pa_cons (pe_f d_minus (hr.mono (by decide)) rfl (passes_call (takes_of rfl rfl rfl rfl) fun _ _ _ _ z => z) (pa_cons (pv 1) (pa_cons (pe_fld (pv 0) rfl) pa_nil))) (pa_cons (pe_fld (pv 0) rfl) pa_nil))) (pa_cons (pe_fld (pv 0) rfl) (pa_cons (pv 2) pa_nil))))))))), ?_⟩
  obtain ⟨c, d, a, b, rfl, hc, hpl, hsp, b1, b2, ba, bb, h⟩ := h
  refine ⟨_, rfl, _, _, rfl, 0, hpl, by decide, by decide, ?_⟩
  refine ⟨_, rfl, _, _, rfl, a, b, hsp, ?_⟩
  obtain ⟨dx, fa, fs, fp, ea, ra, sa, pa⟩ := hc
  refine ⟨_, rfl, c, _, dx, _, _, rfl, ea, T.c_Cycle, T.n_Cycle_period, rfl, rfl, _, rfl, ?_⟩
  rcases pa with ⟨r0, rfl⟩ | ⟨r0, pf⟩
  · unfold visitsRes at h
    rw [if_pos r0] at h
    refine ifD (fun _ => ?_) (fun n => absurd rfl n)
    obtain ⟨pq, rfl, hq⟩ := hpl
    refine ⟨_, rfl, c, _, dx, _, _, rfl, ea, T.c_Cycle, T.n_Cycle_start, rfl, _, rfl, dtF d.2, dtF 0, dp_fr sa, dp_fr ⟨pq, rfl, hq⟩, shp_fr _, shp_fr _, ?_⟩
    rw [eqv_fr]
    refine ⟨_, rfl, ifD (fun e => ?_) (fun e => ?_)⟩
    · rw [if_pos e] at h
      exact h H Same.rfl'
    · rw [if_neg e] at h
      refine ⟨by decide, fun p hp => ?_⟩
      exact h p [] _ (same_new hp) upd_same ⟨rfl, fun i x e => by cases e⟩
  · unfold visitsRes at h
    rw [if_neg r0] at h
    have nn : fp ≠ .non := by obtain ⟨q, rfl, _⟩ := pf; intro z; cases z
    refine ifD (fun e => absurd e nn) (fun _ => ?_)
    have z1 : Sz 1 (0 : Rat) := ⟨by decide, by decide⟩
    refine ⟨_, rfl, _, rfl, c, _, dx, _, _, rfl, ea, T.c_Cycle, T.n_Cycle_start, rfl, _, _, rfl, 0, d.2, hpl, sa, z1.mono (by decide), b2.mono (by decide), trivial, fun p hp => ?_⟩
    have s1 := same_new (o := frO (0 - d.2)) hp
    refine ⟨_, rfl, c, _, dx, _, _, rfl, s1 _ _ ea, T.c_Cycle, T.n_Cycle_rate, rfl, _, _, rfl, 0 - d.2, d.1, ⟨p, rfl, upd_same⟩, ra.mono s1, (z1.sub b2).mono (by decide), b1.mono (by decide), r0, fun q hq => ?_⟩
    have s2 := Same.new (o := frO ((0 - d.2) / d.1)) s1 hq
    refine ⟨_, rfl, c, _, dx, _, _, rfl, s2 _ _ ea, T.c_Cycle, T.n_Cycle_period, rfl, _, rfl, _, _, _, rfl, (0 - d.2) / d.1, absR (1 / d.1), a, b, ⟨q, rfl, upd_same⟩, pf.mono s2, hsp.mono s2, ((z1.sub b2).div b1 r0).mono (by decide), (per_sz b1 (by decide) r0).mono (by decide), ba, bb, absR_pos (inv_ne r0), GvRes.at h s2⟩
end
end Wk
set_option maxHeartbeats 4000000
namespace Wk
open PySem PySem.Spec PyProof.Rows L2
/-! ### names -/
def letS : Str := "abcdefghijklmnopqrstuvwxyz"
def digS : Str := "0123456789"
def isL (c : Nat) : Bool := decide (c ∈ letS.cps.toList)
def isD (c : Nat) : Bool := decide (c ∈ digS.cps.toList)
def nameL : List Nat → Bool
  | [] => false
  | c :: r => decide (r.length ≤ 11) && (isL c && (c :: r).all fun c => isL c || isD c)
def nameOk (x : Str) : Bool := nameL x.cps.toList
/-- a value that is asked: a text, or none of them -/
def fitsB : V → Bool
  | .str x => nameOk x
  | _ => false
def Nv (H : Hp) (v : V) : Prop := (∃ x : Str, v = .str x ∧ x.length ≤ sizeLine) ∨ v = .non ∨ (∃ i : Int, v = .int i) ∨ ∃ l xs, v = .ref l ∧ H l = some (.lst xs)
section
variable {R : Nat → V → Hp → Prop} {g : TG} {te : TE} {vs : List Nat} {σ : L2.St} {H1 : Hp} {D : Addr} {Qd : Hp → Prop}
/-- a comprehension over any walk that leaves the heap -/
theorem lc_mapW {J : It} {n : Nat} {G : Hp → Prop} {Y : Nat → Hp → V → Hp → Prop} (wk : Walk J n G Y) (hY : ∀ i H x H', Y i H x H' → H' = H) (hG : ∀ H, Same H1 H → G H) (mono : ∀ i y H H', SameL H H' → R i y H → R i y H') (hD : H1 D = none) (hz : n ≤ sizeLine)
    (hs : ∀ i x H, i < n → Same H1 H → Y i H x H → ∀ (k : VK), (∀ y H4, Same H H4 → R i y H4 → k y H4) → g x (wipe σ vs) H fun σ2 H2 => wipe σ2 vs = wipe σ vs ∧ te σ2 H2 k)
    (hd : LcEnd R n D H1 Qd) :
    ∃ W : Nat → Nat → Hp → Prop, (∃ m, W 0 m (upd H1 D (.lst []))) ∧ ∀ i m H, W i m H →
      (J.stop i H ∧ Qd H) ∨ (J.go i H ∧ ∃ Nx : Hp → Prop, (∀ H', Nx H' → ∃ m', m' < m ∧ W (i + 1) m' H') ∧ ∀ x H', J.yld i H x H' → g x (wipe σ vs) H' fun σ2 H2 => wipe σ2 vs = wipe σ vs ∧ tYes σ2 H2 fun b H3 =>
        if b = true then te σ2 H3 fun y H4 => ∃ acc, H4 D = some (.lst acc) ∧ acc.length < sizeLine ∧ Nx (upd H4 D (.lst (acc ++ [y]))) else Nx H3) := by
  refine lc_it wk (LcPv R D H1) (lcPv0 hD) (fun i H _ p => hG H p.1) (fun i x H H' hi p y => ?_) (fun H p => ?_)
  · have e := hY i H x H' y
    subst e
    have := hs i x H' hi p.1 y (fun y H4 => ∃ acc, H4 D = some (.lst acc) ∧ acc.length < sizeLine ∧ LcPv R D H1 (i + 1) (upd H4 D (.lst (acc ++ [y])))) (fun y H4 s r => lcPv_next mono hD p s r (by omega))
    simpa only [tYes, if_true] using this
  · obtain ⟨s, acc, h1, h2, h3⟩ := p
    exact hd H acc s h1 h2 h3
end
theorem bls_map {l : List Nat} {f : Nat → Bool} {ys : List V} (hl : ys.length = l.length) (h : ∀ (i : Nat) (y : V), ys[i]? = some y → ∃ c, l[i]? = some c ∧ y = .bl (f c)) : ys = (l.map f).map V.bl := by
  apply List.ext_getElem?
  intro i
  rw [List.getElem?_map, List.getElem?_map]
  cases q : ys[i]? with
  | none =>
    have := List.getElem?_eq_none_iff.mp q
    rw [List.getElem?_eq_none (by omega)]; rfl
  | some y =>
    obtain ⟨u, hu, hy⟩ := h i y q
    rw [hu, hy]; rfl
section
variable {P : Program} {w : World} {K : PySem.W.Frag} {mg : Str → Option Value} {base : Heap}
def spFits : Sp := sp1 fun v H Q _ => Nv H v ∧ ∀ H', Same H H' → Q (.bl (fitsB v)) H'
theorem k_non_str {K : PySem.W.Frag} : PySem.W.kitOne K (.type "NoneType") (.type "str") = some false := kit_ty (by decide +kernel)
theorem k_int_str {K : PySem.W.Frag} : PySem.W.kitOne K (.type "int") (.type "str") = some false := kit_ty (by decide +kernel)
theorem k_lst_str {K : PySem.W.Frag} : PySem.W.kitOne K (.type "list") (.type "str") = some false := kit_ty (by decide +kernel)
theorem len_cps (x : Str) : x.length = x.cps.toList.length := by simp [Str.length]
abbrev N_fits_name : List Str := ["value", "sign"]
theorem sc_fits_name : FnScope N_fits_name ["value"] (defScope S_fits_name) := ⟨rfl, rfl, rfl, by decide +kernel, rfl, by decide +kernel, by decide +kernel⟩
theorem ok_fits_name (T : Tx K mg)   : Ok P w K mg base 1 "fits_name" ["value"] spFits := by
  obtain ⟨fd, F⟩ := T.f_fits_name
  have sc := sc_fits_name
  refine okFN (F := F) T.g_fits_name F.kp (F.bindsN fun _ _ _ _ _ _ us hl => match us, hl with | [_], _ => rfl) sc sp1_len (fun cdv A outer s H vs Q E hr h => ?_)
  obtain ⟨u, rfl, h⟩ := h
  refine ⟨_, (pss_cons (ps_if (PW.pt (pw_or (pt_not (pt_val (pe_callB call_isi (by rfl) T.b_isinstance (by decide +kernel) (pa_cons (pv 0) (pa_cons (pe_bltn (v := .ty "str") rfl T.b_str (by decide +kernel) rfl) pa_nil))))) (pw_or1 (pt_not (pt_chain op_le op_le pe_int (pe_callB call_len (by rfl) T.b_len PySem.boot_len (pa_cons (pv 0) pa_nil)) (pe_glob (v := .int 12) rfl (T.i_MOST_LETTERS).choose_spec ⟨_, rfl⟩)))))) (pss_one (ps_ret pe_bl)) pss_nil)
      (pss_one (ps_ret (pe_and (pe_cmpR op_in_sign (pe_ix ix_str (pv 0) pe_int (fun _ _ => rfl)) (pe_glob (v := .str letS) rfl (T.s_LETTERS).choose_spec ⟨_, rfl⟩) rfl) (pe_one (pe_callB (cr_all rfl) (by rfl) T.b_all (by decide +kernel) (pa_cons (pe_lc rfl sc.nd (pi_str (pv 0)) (blkOk_by (N := N_fits_name) (sc := defScope S_fits_name) (own := [("sign", 1)]) (by decide +kernel)) (fun _ _ _ _ _ => (pg_name (i := 1) sc.nd rfl (Or.inl rfl))) (fun _ _ _ _ _ => pts_nil) (fun _ _ _ _ _ => (pe_or (pe_cmpR op_in_sign (pv 1) (pe_glob (v := .str letS) rfl (T.s_LETTERS).choose_spec ⟨_, rfl⟩) rfl) (pe_one (pe_cmpR op_in_sign (pv 1) (pe_glob (v := .str digS) rfl (T.s_DIGITS).choose_spec ⟨_, rfl⟩) rfl))))) pa_nil))))))), ?_⟩
  obtain ⟨hv, h⟩ := h
  rcases hv with ⟨x, rfl, hx⟩ | rfl | ⟨i, rfl⟩ | ⟨l, xs, rfl, hl⟩
  · refine ⟨_, rfl, _, _, _, _, true, rfl, .ty _, .base (.str _), k_str_str, true, rfl, iteF ?_⟩
    have e : fitsB (.str x) = nameL x.cps.toList := rfl
    rw [e] at h
    refine ⟨_, rfl, .str x, _, rfl, ⟨hx, rfl⟩, _, _, rfl, rfl, _, rfl, ?_⟩
    have lc := len_cps x
    cases hc : x.cps.toList with
    | nil =>
      rw [hc] at h lc
      refine ifD (fun z => absurd z (by rw [lc]; decide)) (fun _ => ⟨false, rfl, iteT (h H Same.rfl')⟩)
    | cons c r =>
      rw [hc] at h lc
      have l1 : x.length = r.length + 1 := by rw [lc]; simp
      refine ifD (fun _ => ?_) (fun n => absurd (by rw [l1]; omega) n)
      refine ⟨_, _, rfl, rfl, _, rfl, ?_⟩
      by_cases h12 : r.length ≤ 11
      · refine ifN (by rw [l1]; omega) ?_
        refine ⟨_, rfl, x, 0, c, rfl, rfl, hx, by rw [hc]; exact at_0, c, letS, rfl, rfl, ?_⟩
        refine ⟨_, rfl, ifD (fun hcl => ?_) (fun hcl => ?_)⟩
        · refine ⟨_, rfl, x, rfl, fun D hD => ?_⟩
          refine lc_mapW (R := fun i y _ => ∃ d, (c :: r)[i]? = some d ∧ y = .bl (isL d || isD d)) walk_str (fun _ _ _ _ y => y.1) (fun _ _ => trivial) (fun _ _ _ _ _ z => z) hD (by show x.length ≤ sizeLine; exact hx) (fun i y H' hi s ⟨_, d, hd, ey⟩ k hk => ?_) (fun H' ys s hy hn hr => ?_)
          · subst ey
            have hd2 : (c :: r)[i]? = some d := by rw [← hc]; simpa using hd
            refine ⟨rfl, _, rfl, d, letS, rfl, rfl, _, rfl, ifD (fun a => ?_) (fun a => ?_)⟩
            · refine hk _ _ Same.rfl' ⟨d, hd2, ?_⟩
              have : isL d = true := decide_eq_true a
              rw [this]; rfl
            · refine ⟨_, rfl, d, digS, rfl, rfl, hk _ _ Same.rfl' ⟨d, hd2, ?_⟩⟩
              have : isL d = false := decide_eq_false a
              rw [this]; rfl
          · have ey := bls_map (l := c :: r) (f := fun d => isL d || isD d) (by rw [hn, ← hc]; simp) hr
            refine ⟨D, _, rfl, by rw [← ey]; exact SqL.of hy, ?_⟩
            have : Q (.bl (decide (r.length ≤ 11) && (isL c && (c :: r).all fun c => isL c || isD c))) H' := h H' s
            rw [decide_eq_true h12, show isL c = true from decide_eq_true hcl] at this
            have e2 : ((c :: r).map fun d => isL d || isD d).all id = (c :: r).all fun d => isL d || isD d := by
              rw [List.all_map]; rfl
            rw [e2]
            exact this
        · have : Q (.bl (decide (r.length ≤ 11) && (isL c && (c :: r).all fun c => isL c || isD c))) H := h H Same.rfl'
          rw [show isL c = false from decide_eq_false hcl] at this
          simpa using this
      · have : ¬ ((x.length : Int) ≤ 12) := by rw [l1]; omega
        rw [decide_eq_false this]
        refine iteT ?_
        have : Q (.bl (decide (r.length ≤ 11) && (isL c && (c :: r).all fun c => isL c || isD c))) H := h H Same.rfl'
        rw [decide_eq_false h12] at this
        exact this
  · exact ⟨_, rfl, _, _, _, _, false, rfl, .ty _, .base .non, k_non_str, false, rfl, iteT (h H Same.rfl')⟩
  · exact ⟨_, rfl, _, _, _, _, false, rfl, .ty _, .base (.int _), k_int_str, false, rfl, iteT (h H Same.rfl')⟩
  · exact ⟨_, rfl, _, _, _, _, false, rfl, .ty _, .base (.lst hl), k_lst_str, false, rfl, iteT (h H Same.rfl')⟩
end
end Wk
set_option maxHeartbeats 4000000
namespace Wk
open PySem PySem.Spec PyProof.Rows L2
/-! ### skies in the heap -/
def RowV (K : PySem.W.Frag) (H : Hp) (v : V) (n : Str) (d : Rw) : Prop := ∃ t c, v = .ref t ∧ H t = some (.tup [.str n, .ref c]) ∧ CycA K H c d
structure RowsV (K : PySem.W.Frag) (H : Hp) (rows : List V) (ns : List Str) (ds : List Rw) : Prop where
  l1 : rows.length = ns.length
  l2 : rows.length = ds.length
  at_ : ∀ (i : Nat) (v : V), rows[i]? = some v → ∃ n d, ns[i]? = some n ∧ ds[i]? = some d ∧ RowV K H v n d
def SkyA (K : PySem.W.Frag) (H : Hp) (p : Addr) (ns : List Str) (ds : List Rw) : Prop := ∃ dx l rows, H p = some (.ins (ga K "Sky") dx [("sky_rows", .ref l)]) ∧ H l = some (.lst rows) ∧ RowsV K H rows ns ds
structure NamesOk (ns : List Str) : Prop where
  ok : ∀ n ∈ ns, nameOk n = true
  nd : ns.Nodup
section
variable {K : PySem.W.Frag} {H H' : Hp} {v : V} {n : Str} {d : Rw} {rows : List V} {ns : List Str} {ds : List Rw} {p : Addr}
theorem RowV.mono (h : RowV K H v n d) (s : Same H H') : RowV K H' v n d := let ⟨t, c, e, x, y⟩ := h; ⟨t, c, e, s t _ x, y.mono s⟩
theorem RowV.monoL (h : RowV K H v n d) (s : SameL H H') : RowV K H' v n d := let ⟨t, c, e, x, y⟩ := h; ⟨t, c, e, s t _ x (fun _ z => nomatch z), y.monoL s⟩
theorem RowsV.mono (h : RowsV K H rows ns ds) (s : Same H H') : RowsV K H' rows ns ds := ⟨h.l1, h.l2, fun i v e => let ⟨n, d, a, b, c⟩ := h.at_ i v e; ⟨n, d, a, b, c.mono s⟩⟩
theorem RowsV.monoL (h : RowsV K H rows ns ds) (s : SameL H H') : RowsV K H' rows ns ds := ⟨h.l1, h.l2, fun i v e => let ⟨n, d, a, b, c⟩ := h.at_ i v e; ⟨n, d, a, b, c.monoL s⟩⟩
theorem SkyA.mono (h : SkyA K H p ns ds) (s : Same H H') : SkyA K H' p ns ds := let ⟨dx, l, rows, a, b, c⟩ := h; ⟨dx, l, rows, s _ _ a, s _ _ b, c.mono s⟩
end
theorem CycA.monoX {K : PySem.W.Frag} {H H' : Hp} {c p C dx : Addr} {d : Rw} {fs : List (Str × V)} (h : CycA K H c d) (hp : H p = some (.ins C dx fs)) (hc : c ≠ p) (s : SameX p H H') : CycA K H' c d := by
  obtain ⟨dx, a, b, e, q, x, y, z⟩ := h
  refine ⟨dx, a, b, e, s c _ hc q, x.monoX hp s, y.monoX hp s, z.imp id fun ⟨n, f⟩ => ⟨n, f.monoX hp s⟩⟩
theorem RowsV.monoX {K : PySem.W.Frag} {H H' : Hp} {p dx : Addr} {rows : List V} {ns : List Str} {ds : List Rw} (h : RowsV K H rows ns ds) (hp : H p = some (.ins (ga K "Sky") dx [])) (s : SameX p H H') : RowsV K H' rows ns ds := by
  refine ⟨h.l1, h.l2, fun i v e => ?_⟩
  obtain ⟨n, d, a, b, t, c, e, q, hc⟩ := h.at_ i v e
  refine ⟨n, d, a, b, t, c, e, s t _ (fun z => ?_) q, hc.monoX hp (fun z => ?_) s⟩
  · rw [z, hp] at q; cases q
  · obtain ⟨dx2, a2, b2, e2, q2, _⟩ := hc
    rw [z, hp] at q2
    injection q2 with q2
    injection q2 with _ _ q2
    cases q2
/-- the getter of names -/
structure OkP (P : Program) (w : World) (K : PySem.W.Frag) (mg : Str → Option Value) (base : Heap) (k : Nat) (ps : List Str) (sp : Sp) : Prop where
  ex : ∃ fd, Binds K fd ps [] ∧ FnOk P w K mg base (L2.CX P w) k (gNames K) fd ps sp
section
variable {P : Program} {w : World} {K : PySem.W.Frag} {mg : Str → Option Value} {base : Heap} {k : Nat} {ps : List Str} {sp : Sp}
noncomputable def OkP.fd (d : OkP P w K mg base k ps sp) : FuncData := d.ex.choose
theorem OkP.b (d : OkP P w K mg base k ps sp) : Binds K d.fd ps [] := d.ex.choose_spec.1
theorem OkP.fn (d : OkP P w K mg base k ps sp) : FnOk P w K mg base (L2.CX P w) k (gNames K) d.fd ps sp := d.ex.choose_spec.2
variable {nm qual : Str} {pa : Arguments} {bd : List Stmt} {sc : Scope} {dvs : List V} {kws : List (Str × V)} {fd : FuncData} {N : List Str}
theorem okPN (F : FunD K nm qual pa bd sc dvs kws (gNames K) fd) (hb : Binds K fd ps []) (S : FnScope N ps sc) (len : ∀ vs H Q E, sp vs H Q E → vs.length = ps.length)
    (hbody : ∀ (cdv : Value) (A : Around) (outer : List Env) (s : Shared) (H : Hp) (vs : List V) (Q : VK) (E : XK), Room k (A.deeper (envOfC qual sc s.heap.objs.size (gNames K) cdv)) → sp vs H Q E →
      ∃ t, PSs (cxOf (L2.CX P w) P w K mg base N qual sc (gNames K) cdv A outer s H E).nox bd t ∧ t { nx := fun _ H' => Q .non H', rt := Q } (start N vs) H) : OkP P w K mg base (k + 1) ps sp :=
  ⟨⟨fd, hb, F.ok S len fun cdv A outer s H vs Q E hr h => let ⟨t, h1, h2⟩ := hbody cdv A outer s H vs Q E hr h; ⟨t, h1.nox, h2⟩⟩⟩
end
/-! ### rules with the written part by name (in a comprehension) -/
section
variable {X : Cx} {K : PySem.W.Frag} {e o : Expr} {ta : TE} {f : Str} {pos : Pos}
theorem ix_tupK (h : X.K = K) : IxR X (rIxT K) := h ▸ ix_tup
theorem ix_listK (h : X.K = K) : IxR X (rIxL K) := h ▸ ix_list
theorem call_isiC (h : X.K = K) : CallR X (.builtin "isinstance") (rIsi K) := h ▸ call_isi
theorem call_lenC (h : X.K = K) : CallR X (.builtin "len") (fun xs H Q => ∃ x n, xs = [x] ∧ LenV K x H n ∧ Q (.int n) H) := h ▸ call_len
theorem pe_fldK (h : X.K = K) (he : PE X e ta) (hb : attributeBase e f X.env (eval e X.env) = eval e X.env) : PE X (.Attribute e f pos) (tFld K ta f) := h ▸ pe_fld he hb
theorem pg_tupK (h : X.K = K) {es : List Expr} {k : Nat} {t : TGs} {n : Nat} (hc : X.calm = true) (hg : PGs X es t) (hn : (assignEach es X.env).length = n) (hst : (assignEach es X.env).findIdx? (·.1) = none) : PG X (.Tuple es k pos) (gTup K n t) := by
  subst h; exact pg_tup hc hg hn hst
theorem op_inK (h : X.K = K) : OpR X (compareOp .In) (rIn K false) := h ▸ op_in_seq
theorem op_notInK (h : X.K = K) : OpR X (compareOp .NotIn) (rIn K true) := h ▸ op_notIn_seq
theorem op_inDK (h : X.K = K) (hu : X.A.units + 65 < cLine) : OpR X (compareOp .In) (rInD K) := h ▸ op_inD hu
end
theorem eqV_str (x y : Str) : eqV (.str x) (.str y) = decide (x = y) := by
  show (x == y) = _
  by_cases h : x = y
  · subst h; simp
  · rw [decide_eq_false h]; exact beq_eq_false_iff_ne.mpr h
theorem strs_flat (ns : List Str) : (ns.map V.str).all flatV = true := by
  rw [List.all_map]
  exact List.all_eq_true.mpr fun x _ => rfl
theorem inV_strs (x : Str) (ns : List Str) : inV (.str x) (ns.map V.str) = decide (x ∈ ns) := by
  unfold inV
  rw [List.any_map]
  by_cases h : x ∈ ns
  · rw [decide_eq_true h, List.any_eq_true]
    exact ⟨x, h, (eqV_str x x).trans (by simp)⟩
  · rw [decide_eq_false h, List.any_eq_false]
    intro y hy
    intro z
    have := of_decide_eq_true ((eqV_str y x).symm.trans z)
    subst this
    exact h hy
end Wk
set_option maxHeartbeats 4000000
namespace Wk
open PySem PySem.Spec PyProof.Rows L2
section
variable {P : Program} {w : World} {K : PySem.W.Frag} {mg : Str → Option Value} {base : Heap}
def spNeedNm (K : PySem.W.Frag) : Sp := sp2 fun v u H Q E => Nv H v ∧ (fitsB v = true → ∀ H', Same H H' → Q .non H') ∧ (fitsB v = false → Rz K "BadValue" "what" u H E)
abbrev N_need_name : List Str := ["value", "what"]
theorem sc_need_name : FnScope N_need_name ["value", "what"] (defScope S_need_name) := ⟨rfl, rfl, rfl, by decide +kernel, rfl, by decide +kernel, by decide +kernel⟩
theorem ok_need_name (T : Tx K mg) (d_fits_name : Ok P w K mg base 1 "fits_name" ["value"] spFits) (d_BadValue_init : OkM P w K mg base 1 "BadValue" "__init__" ["self", "what"] (spErr K "BadValue" "what"))  : Ok P w K mg base 3 "need_name" ["value", "what"] (spNeedNm K) := by
  obtain ⟨fd, F⟩ := T.f_need_name
  have sc := sc_need_name
  refine okFX (F := F) T.g_need_name F.kp (F.bindsN fun _ _ _ _ _ _ us hl => match us, hl with | [_, _], _ => rfl) sc sp2_len (fun cdv A outer s H vs Q E hr h => ?_)
  obtain ⟨u, v, rfl, h⟩ := h
  refine ⟨_, (pss_one (ps_if (pt_not (pt_val (pe_f d_fits_name (hr.mono (by decide)) rfl (passes_call (takes_of rfl rfl rfl rfl) fun _ _ _ _ z => z) (pa_cons (pv 0) pa_nil)))) (pss_one (ps_raise rfl (takes_of rfl rfl rfl rfl) (pmk_oex T.o_BadValue T.t_BadValue_init.at_ (tyFn T.t_BadValue_init.fn) d_BadValue_init.fn (hr.mono (by decide)) d_BadValue_init.b .nil passL rfl T.g_BadValue (pa_cons (pv 1) pa_nil)))) pss_nil)), ?_⟩
  obtain ⟨hv, h1, h2⟩ := h
  refine ⟨_, rfl, _, rfl, hv, fun H' s => ⟨_, rfl, ?_⟩⟩
  cases e : fitsB u with
  | true => exact iteF (h1 e H' s)
  | false => exact iteT ⟨_, rfl, rz_of (Rz.at (h2 e) s)⟩
def spFitRows (K : PySem.W.Frag) : Sp := sp1 fun a H Q _ => ∃ l rows ns ds, a = .ref l ∧ H l = some (.lst rows) ∧ rows.length ≤ 8 ∧ RowsV K H rows ns ds ∧ (∀ n ∈ ns, nameOk n = true) ∧ ∀ H', Same H H' → Q (.bl true) H'
theorem nameOk_len {n : Str} (h : nameOk n = true) : n.length ≤ 12 := by
  have e := len_cps n
  unfold nameOk at h
  cases hc : n.cps.toList with
  | nil => rw [hc] at h; cases h
  | cons c r =>
    rw [hc] at h e
    have : (decide (r.length ≤ 11) && (isL c && (c :: r).all fun c => isL c || isD c)) = true := h
    have := of_decide_eq_true (Bool.and_eq_true_iff.mp this).1
    simp at e
    omega
theorem line12 {n : Str} (h : nameOk n = true) : n.length ≤ sizeLine := Nat.le_trans (nameOk_len h) (by decide)
theorem at2_0 {K : PySem.W.Frag} {H : Hp} {t : Addr} {x y : V} (h : H t = some (.tup [x, y])) : SqT K H t [x, y] := SqT.of h
theorem len2 {K : PySem.W.Frag} {H : Hp} {t : Addr} {x y : V} (h : H t = some (.tup [x, y])) : LenV K (.ref t) H 2 := .inr ⟨_, SqT.of h, rfl⟩
abbrev N_fits_rows : List Str := ["rows", "row"]
theorem sc_fits_rows : FnScope N_fits_rows ["rows"] (defScope S_fits_rows) := ⟨rfl, rfl, rfl, by decide +kernel, rfl, by decide +kernel, by decide +kernel⟩
theorem ok_fits_rows (T : Tx K mg) (d_fits_name : Ok P w K mg base 1 "fits_name" ["value"] spFits)  : Ok P w K mg base 2 "fits_rows" ["rows"] (spFitRows K) := by
  obtain ⟨fd, F⟩ := T.f_fits_rows
  have sc := sc_fits_rows
  refine okFN (F := F) T.g_fits_rows F.kp (F.bindsN fun _ _ _ _ _ _ us hl => match us, hl with | [_], _ => rfl) sc sp1_len (fun cdv A outer s H vs Q E hr h => ?_)
  obtain ⟨u, rfl, h⟩ := h
  refine ⟨_, (pss_cons (ps_if (PW.pt (pw_or (pt_not (pt_val (pe_callB call_isi (by rfl) T.b_isinstance (by decide +kernel) (pa_cons (pv 0) (pa_cons (pe_bltn (v := .ty "list") rfl T.b_list (by decide +kernel) rfl) pa_nil))))) (pw_or1 (pt_cmpR op_gt (pe_callB call_len (by rfl) T.b_len PySem.boot_len (pa_cons (pv 0) pa_nil)) (pe_glob (v := .int 8) rfl (T.i_MOST_CYCLES_skies).choose_spec ⟨_, rfl⟩) (nomark _))))) (pss_one (ps_ret pe_bl)) pss_nil)
      (pss_cons (ps_for PassesOwn.never rfl (pi_list (pv 0)) (pg_name (i := 1) sc.nd rfl (Or.inl rfl)) (pss_cons (ps_if (PW.pt (pw_or (pt_not (pt_val (pe_callB call_isi (by rfl) T.b_isinstance (by decide +kernel) (pa_cons (pv 1) (pa_cons (pe_bltn (v := .ty "tuple") rfl T.b_tuple (by decide +kernel) rfl) pa_nil))))) (pw_or1 (pt_cmpR op_ne (pe_callB call_len (by rfl) T.b_len PySem.boot_len (pa_cons (pv 1) pa_nil)) pe_int (nomark _))))) (pss_one (ps_ret pe_bl)) pss_nil)
      (pss_one (ps_if (PW.pt (pw_or (pt_not (pt_val (pe_f d_fits_name (hr.mono (by decide)) rfl passL (pa_cons (pe_ix ix_tup (pv 1) pe_int (fun _ _ => rfl)) pa_nil)))) (pw_or1 (pt_not (pt_val (pe_callB call_isi (by rfl) T.b_isinstance (by decide +kernel) (pa_cons (pe_ix ix_tup (pv 1) pe_int (fun _ _ => rfl)) (pa_cons (pe_glob (v := .ref (ga K "Cycle")) rfl T.g_Cycle rfl) pa_nil)))))))) (pss_one (ps_ret pe_bl)) pss_nil))))
      (pss_one (ps_ret pe_bl)))), ?_⟩
  obtain ⟨l, rows, ns, ds, rfl, hl, h8, hr2, hok, h⟩ := h
  refine ⟨_, rfl, _, _, _, _, true, rfl, .ty _, .base (.lst hl), k_lst_lst, true, rfl, iteF ?_⟩
  refine ⟨_, rfl, _, _, rfl, lenL hl, _, _, rfl, rfl, _, rfl, ifD (fun z => ?_) (fun _ => ?_)⟩
  · have z : (8 : Int) < (rows.length : Int) := z
    omega
  refine ⟨_, rfl, l, rfl, ⟨_, SqL.of hl⟩, ?_⟩
  refine for_list (xs := rows) (fun i σ H' => ∃ o1, σ = [some (.ref l), o1] ∧ Same H H') ?_ ?_ ?_ ?_
  · exact ⟨_, rfl, Same.rfl'⟩
  · rintro i σ H' _ ⟨o1, rfl, s⟩
    exact SqL.of (s l _ hl)
  · rintro i x σ H' hi ⟨o1, rfl, s⟩
    obtain ⟨n, d, hn, hd, t, c, rfl, ht, hc⟩ := hr2.at_ i x hi
    have ht2 := s t _ ht
    obtain ⟨dx, fa, fs, fp, hc2, _⟩ := hc.mono s
    have nk := hok n (List.mem_of_getElem? hn)
    refine ⟨_, rfl, _, _, _, _, true, rfl, .ty _, .base (.tup ht2), k_tup_tup, true, rfl, iteF ?_⟩
    refine ⟨_, rfl, _, 2, rfl, len2 ht2, rfl, _, rfl, ifNe (fun z => absurd rfl z) (fun _ => ?_)⟩
    refine ⟨_, rfl, _, _, _, _, rfl, rfl, at2_0 ht2, at_0, _, rfl, .inl ⟨n, rfl, line12 nk⟩, fun H2 s2 => ?_⟩
    rw [show fitsB (.str n) = true from nk]
    refine ⟨_, rfl, iteF ?_⟩
    exact ⟨_, rfl, _, _, _, _, rfl, rfl, at2_0 (s2 t _ ht2), at_1, _, _, _, _, true, rfl, .own _, .base (.ins (s2 c _ hc2) T.c_Cycle T.j_Cycle.cl T.oc_get T.oc_tak T.j_Cycle.hm), k_own, true, rfl, iteF ⟨_, rfl, Same.trans' s s2⟩⟩
  · rintro σ H' ⟨o1, rfl, s⟩
    exact h H' s
/-- a row by its name -/
def spCyNamed (K : PySem.W.Frag) : Sp := sp2 fun a v H Q E => ∃ l rows ns ds, a = .ref l ∧ H l = some (.lst rows) ∧ RowsV K H rows ns ds ∧ Nv H v ∧ (fitsB v = false → Rz K "BadValue" "what" (.str "name") H E) ∧
  (fitsB v = true → ∃ x : Str, v = .str x ∧ ((x ∉ ns ∧ Rz K "NoName" "name" (.str x) H E) ∨ (∃ (i : Nat) (d : Rw), ns[i]? = some x ∧ (∀ j : Nat, j < i → ns[j]? ≠ some x) ∧ ds[i]? = some d ∧ ∀ q H', Same H H' → CycA K H' q d → Q (.ref q) H')))
theorem ifStr {x y : Str} {A B : Prop} (h1 : x = y → A) (h2 : x ≠ y → B) : if decide (V.str x = V.str y) = true then A else B :=
  ifD (fun e => h1 (by injection e)) fun n => h2 fun e => n (by rw [e])
abbrev N_cycle_named : List Str := ["rows", "name", "known", "cycle"]
theorem sc_cycle_named : FnScope N_cycle_named ["rows", "name"] (defScope S_cycle_named) := ⟨rfl, rfl, rfl, by decide +kernel, rfl, by decide +kernel, by decide +kernel⟩
theorem ok_cycle_named (T : Tx K mg) (d_NoName_init : OkM P w K mg base 1 "NoName" "__init__" ["self", "name"] (spErr K "NoName" "name")) (d_need_name : Ok P w K mg base 3 "need_name" ["value", "what"] (spNeedNm K))  : Ok P w K mg base 4 "cycle_named" ["rows", "name"] (spCyNamed K) := by
  obtain ⟨fd, F⟩ := T.f_cycle_named
  have sc := sc_cycle_named
  refine okFX (F := F) T.g_cycle_named F.kp (F.bindsN fun _ _ _ _ _ _ us hl => match us, hl with | [_, _], _ => rfl) sc sp2_len (fun cdv A outer s H vs Q E hr h => ?_)
  obtain ⟨u, v, rfl, h⟩ := h
  refine ⟨_, (pss_cons (ps_expr (pe_f d_need_name (hr.mono (by decide)) rfl (passes_call (takes_of rfl rfl rfl rfl) fun _ _ _ _ z => z) (pa_cons (pv 1) (pa_cons pe_str pa_nil))))
      (pss_cons (ps_for (passes_of rfl) rfl (pi_list (pv 0)) (pg_tup rfl (pgs_cons (pg_name (i := 2) sc.nd rfl (Or.inl rfl)) (pgs_cons (pg_name (i := 3) sc.nd rfl (Or.inl rfl)) pgs_nil))) (pss_one (ps_if (pt_cmpR op_eq (pv 2) (pv 1) (nomark _)) (pss_one (ps_ret (pv 3))) pss_nil)))
      (pss_one (ps_raise rfl (takes_of rfl rfl rfl rfl) (pmk_oex T.o_NoName T.t_NoName_init.at_ (tyFn T.t_NoName_init.fn) d_NoName_init.fn (hr.mono (by decide)) d_NoName_init.b .nil passL rfl T.g_NoName (pa_cons (pv 1) pa_nil)))))), ?_⟩
  obtain ⟨l, rows, ns, ds, rfl, hl, hrow, hv, hbad, hgood⟩ := h
  refine ⟨_, rfl, _, _, rfl, hv, fun e H1 s1 => ?_, hbad⟩
  obtain ⟨x, rfl, hx⟩ := hgood e
  refine ⟨_, rfl, l, rfl, ⟨_, SqL.of (s1 l _ hl)⟩, ?_⟩
  refine for_list (xs := rows) (fun i σ H' => ∃ o2 o3, σ = [some (.ref l), some (.str x), o2, o3] ∧ Same H H' ∧ ∀ j, j < i → ns[j]? ≠ some x) ?_ ?_ ?_ ?_
  · exact ⟨_, _, rfl, s1, fun j hj => absurd hj (Nat.not_lt_zero _)⟩
  · rintro i σ H' _ ⟨o2, o3, rfl, s, _⟩
    exact SqL.of (s l _ hl)
  · rintro i y σ H' hi ⟨o2, o3, rfl, s, hno⟩
    obtain ⟨n, d, hn, hd, t, c, rfl, ht, hc⟩ := hrow.at_ i y hi
    have ht2 := s t _ ht
    refine ⟨t, _, rfl, at2_0 ht2, rfl, _, _, rfl, _, _, rfl, rfl, ?_⟩
    refine ⟨_, rfl, _, rfl, rfl, _, rfl, ifStr (fun e => ?_) (fun e => ?_)⟩
    · subst e
      refine ⟨_, rfl, ?_⟩
      rcases hx with ⟨hnot, _⟩ | ⟨k, d', hk, hk2, hd', q⟩
      · exact absurd (List.mem_of_getElem? hn) hnot
      · have ek : k = i := by
          rcases Nat.lt_trichotomy k i with z | z | z
          · exact absurd hk (hno k z)
          · exact z
          · exact absurd hn (hk2 i z)
        subst ek
        rw [hd] at hd'
        cases hd'
        exact q c H' s (hc.mono s)
    · refine ⟨_, _, rfl, s, fun j hj => ?_⟩
      rcases Nat.lt_or_eq_of_le (Nat.le_of_lt_succ hj) with z | z
      · exact hno j z
      · subst z
        rw [hn]
        exact fun w => e (Option.some.inj w)
  · rintro σ H' ⟨o2, o3, rfl, s, hno⟩
    rcases hx with ⟨_, hz⟩ | ⟨k, d', hk, _, _, _⟩
    · exact ⟨_, rfl, rz_of (Rz.at hz s)⟩
    · refine absurd hk (hno k ?_)
      have := (List.getElem?_eq_some_iff.mp hk).1
      have := hrow.l1
      omega
end
end Wk
set_option maxHeartbeats 4000000
namespace Wk
open PySem PySem.Spec PyProof.Rows L2
section
variable {P : Program} {w : World} {K : PySem.W.Frag} {mg : Str → Option Value} {base : Heap}
/-! ### skies -/
def SkyN (K : PySem.W.Frag) (H0 H : Hp) (p : Addr) (ns : List Str) (ds : List Rw) : Prop := ∃ dx l rows, H p = some (.ins (ga K "Sky") dx [("sky_rows", .ref l)]) ∧ H0 l = none ∧ H l = some (.lst rows) ∧ RowsV K H rows ns ds
theorem SkyN.a {K : PySem.W.Frag} {H0 H : Hp} {p : Addr} {ns : List Str} {ds : List Rw} (h : SkyN K H0 H p ns ds) : SkyA K H p ns ds := let ⟨dx, l, rows, a, _, b, c⟩ := h; ⟨dx, l, rows, a, b, c⟩
theorem SkyN.mono {K : PySem.W.Frag} {H0 H1 H : Hp} {p : Addr} {ns : List Str} {ds : List Rw} (h : SkyN K H1 H p ns ds) (s : Same H0 H1) : SkyN K H0 H p ns ds := let ⟨dx, l, rows, a, z, b, c⟩ := h; ⟨dx, l, rows, a, none_of s z, b, c⟩
def spSkyInit (K : PySem.W.Frag) : Sp := sp2 fun s a H Q _ => ∃ p dx l rows ns ds, s = .ref p ∧ H p = some (.ins (ga K "Sky") dx []) ∧ a = .ref l ∧ H l = some (.lst rows) ∧ rows.length ≤ 8 ∧ RowsV K H rows ns ds ∧ NamesOk ns ∧
  ∀ H', SameX p H H' → SkyN K H H' p ns ds → Q .non H'
theorem ifIn {b : Bool} {A B : Prop} (h : b = false) (x : B) : if (if (false : Bool) = true then !b else b) = true then A else B := by
  subst h; simpa using x
theorem nodup_take {ns : List Str} (h : ns.Nodup) {i : Nat} {x : Str} (hi : ns[i]? = some x) : x ∉ ns.take i := by
  intro z
  obtain ⟨j, hj, e⟩ := List.getElem_of_mem z
  have l := (List.getElem?_eq_some_iff.mp hi)
  obtain ⟨li, ei⟩ := l
  rw [List.getElem_take] at e
  have jl : j < i := by
    have := hj
    rw [List.length_take] at this
    omega
  have hz := (List.getElem_inj (h₀ := show j < ns.length by omega) (h₁ := li) h).mp (e.trans ei.symm)
  omega
abbrev N_Sky_init : List Str := ["self", "rows", "known", "row"]
theorem sc_Sky_init : FnScope N_Sky_init ["self", "rows"] (defScope S_Sky_init) := ⟨rfl, rfl, rfl, by decide +kernel, rfl, by decide +kernel, by decide +kernel⟩
theorem ok_Sky_init (T : Tx K mg) (d_fits_rows : Ok P w K mg base 2 "fits_rows" ["rows"] (spFitRows K))  : OkM P w K mg base 3 "Sky" "__init__" ["self", "rows"] (spSkyInit K) := by
  obtain ⟨fd, F⟩ := T.f_Sky_init
  have sc := sc_Sky_init
  refine okMN (F := F)  (F.bindsN fun _ _ _ _ _ _ us hl => match us, hl with | [_, _], _ => rfl) sc sp2_len (fun cdv A outer s H vs Q E hr h => ?_)
  obtain ⟨u, v, rfl, h⟩ := h
  refine ⟨_, (pss_cons (ps_if (pt_not (pt_val (pe_f d_fits_rows (hr.mono (by decide)) rfl passL (pa_cons (pv 1) pa_nil)))) (pss_one ps_never) pss_nil)
      (pss_cons (ps_set (i := 2) sc.nd rfl (Or.inl rfl) (pe_lst pa_nil))
      (pss_cons (ps_for PassesOwn.never rfl (pi_list (pv 1)) (pg_name (i := 3) sc.nd rfl (Or.inl rfl)) (pss_cons (ps_if (pt_cmpR op_in_seq (pe_ix ix_tup (pv 3) pe_int (fun _ _ => rfl)) (pv 2) rfl) (pss_one ps_never) pss_nil)
      (pss_one (ps_expr (pe_bm PySem.F.plainAttrs_list PySem.F.slot_list_append PySem.F.type_list_append mt_append (pv 2) (pa_cons (pe_ix ix_tup (pv 3) pe_int (fun _ _ => rfl)) pa_nil))))))
      (pss_one (ps_fld (pv 0) (pe_callTy call_list_of (by rfl) T.b_list (by decide +kernel) (pa_cons (pv 1) pa_nil)) rfl))))), ?_⟩
  obtain ⟨p, dx, l, rows, ns, ds, rfl, hp, rfl, hl, h8, hrow, hok, h⟩ := h
  refine ⟨_, rfl, _, rfl, l, rows, ns, ds, rfl, hl, h8, hrow, hok.ok, fun H1 s1 => ⟨_, rfl, iteF ?_⟩⟩
  refine ⟨by decide, fun kl hk => ?_⟩
  have k0 : H kl = none := none_of s1 hk
  have s2 := Same.new (o := .lst []) s1 hk
  refine ⟨_, rfl, l, rfl, ⟨_, SqL.of (s2 l _ hl)⟩, ?_⟩
  refine for_list (xs := rows) (fun i σ H' => ∃ o3, σ = [some (.ref p), some (.ref l), some (.ref kl), o3] ∧ Same H H' ∧ H' kl = some (.lst ((ns.take i).map V.str))) ?_ ?_ ?_ ?_
  · exact ⟨_, rfl, s2, by rw [List.take_zero]; exact upd_same⟩
  · rintro i σ H' _ ⟨o3, rfl, s, _⟩
    exact SqL.of (s l _ hl)
  · rintro i x σ H' hi ⟨o3, rfl, s, hkl⟩
    obtain ⟨n, d, hn, hd, t, c, rfl, ht, hc⟩ := hrow.at_ i x hi
    have ht2 := s t _ ht
    have hin : inV (.str n) ((ns.take i).map V.str) = false := by
      rw [inV_strs]; exact decide_eq_false (nodup_take hok.nd hn)
    refine ⟨_, rfl, _, _, _, _, rfl, rfl, at2_0 ht2, at_0, _, rfl, kl, _, rfl, .inl (SqL.of hkl), rfl, strs_flat _, _, rfl, ifIn hin ?_⟩
    have li := (List.getElem?_eq_some_iff.mp hi).1
    refine ⟨_, rfl, tyL hkl, _, rfl, _, _, _, _, rfl, rfl, at2_0 ht2, at_0, kl, _, _, rfl, rfl, hkl, Nat.lt_of_le_of_lt (show ((ns.take i).map V.str).length ≤ 8 by simp; omega) (show 8 < sizeLine by decide), _, rfl, Same.own k0 s, ?_⟩
    rw [take_snoc hn, List.map_append]
    exact upd_same
  · rintro σ H' ⟨o3, rfl, s, hkl⟩
    refine ⟨_, rfl, l, rows, rfl, .inl (SqL.of (s l _ hl)), fun l2 hl2 => ?_⟩
    have s3 := Same.new (o := .lst rows) s hl2
    have hp3 := s3 p _ hp
    refine ⟨_, rfl, p, _, dx, _, rfl, hp3, T.c_Sky, T.n_Sky_sky_rows, by decide, ?_⟩
    have nl : l2 ≠ p := by
      rintro rfl
      rw [s _ _ hp] at hl2; cases hl2
    refine h _ ((SameX.of s3).trans sameX_upd) ⟨dx, l2, rows, upd_same, none_of s hl2, ?_, (hrow.mono s3).monoX hp3 sameX_upd⟩
    rw [upd_ne nl]
    exact upd_same
def spNames (K : PySem.W.Frag) : Sp := sp1 fun s H Q _ => ∃ p ns ds, s = .ref p ∧ SkyA K H p ns ds ∧ ns.length ≤ 8 ∧ ∀ l H', Same H H' → H l = none → H' l = some (.lst (ns.map V.str)) → Q (.ref l) H'
theorem strs_of {ns : List Str} {ys : List V} (hl : ys.length = ns.length) (h : ∀ (i : Nat) (y : V), ys[i]? = some y → ∃ n, ns[i]? = some n ∧ y = .str n) : ys = ns.map V.str := by
  apply List.ext_getElem?
  intro i
  rw [List.getElem?_map]
  cases q : ys[i]? with
  | none =>
    have := List.getElem?_eq_none_iff.mp q
    rw [List.getElem?_eq_none (by omega)]; rfl
  | some y =>
    obtain ⟨u, hu, hy⟩ := h i y q
    rw [hu, hy]; rfl
abbrev N_Sky_names : List Str := ["self", "row"]
theorem sc_Sky_names : FnScope N_Sky_names ["self"] (defScope S_Sky_names) := ⟨rfl, rfl, rfl, by decide +kernel, rfl, by decide +kernel, by decide +kernel⟩
theorem ok_Sky_names (T : Tx K mg)   : OkP P w K mg base 1  ["self"] (spNames K) := by
  obtain ⟨fd, F⟩ := T.f_Sky_names
  have sc := sc_Sky_names
  refine okPN (F := F)  (F.bindsN fun _ _ _ _ _ _ us hl => match us, hl with | [_], _ => rfl) sc sp1_len (fun cdv A outer s H vs Q E hr h => ?_)
  obtain ⟨u, rfl, h⟩ := h
  refine ⟨_, (pss_one (ps_ret (pe_lc rfl sc.nd (pi_list (pe_fld (pv 0) rfl)) (blkOk_by (N := N_Sky_names) (sc := defScope S_Sky_names) (own := [("row", 1)]) (by decide +kernel)) (fun _ _ _ _ _ => (pg_name (i := 1) sc.nd rfl (Or.inl rfl))) (fun _ _ _ _ _ => pts_nil) (fun _ _ _ _ _ => (pe_ix (ix_tupK (K := K) rfl) (pv 1) pe_int (fun _ _ => rfl)))))), ?_⟩
  obtain ⟨p, ns, ds, rfl, ⟨dx, l, rows, hp, hl, hrow⟩, h8, h⟩ := h
  have e1 := hrow.l1
  refine ⟨_, rfl, p, _, dx, _, _, rfl, hp, T.c_Sky, T.n_Sky_sky_rows, rfl, l, rfl, ⟨_, SqL.of hl⟩, fun D hD => ?_⟩
  refine lc_mapL (R := fun i y _ => ∃ n, ns[i]? = some n ∧ y = .str n) (xs := rows) (fun _ _ _ _ _ z => z) hl hD (line400 (by omega)) (fun i x H' hi s k hk => ?_) (fun H' ys s hy hn hr => ?_)
  · obtain ⟨n, d, hn, hd, t, c, rfl, ht, hc⟩ := hrow.at_ i x hi
    exact ⟨rfl, _, rfl, _, _, _, _, rfl, rfl, at2_0 (s t _ ht), at_0, hk _ _ Same.rfl' ⟨n, hn, rfl⟩⟩
  · have ey := strs_of (by omega) hr
    rw [ey] at hy
    exact h D H' s hD hy
end
end Wk
set_option maxHeartbeats 4000000
namespace Wk
open PySem PySem.Spec PyProof.Rows L2
section
variable {P : Program} {w : World} {K : PySem.W.Frag} {mg : Str → Option Value} {base : Heap}
/-! ### iter(sky) -/
abbrev N_Skyiter : List Str := ["self"]
theorem sc_Skyiter : FnScope N_Skyiter ["self"] (defScope S_Sky_iter) := ⟨rfl, rfl, rfl, by decide +kernel, rfl, by decide +kernel, by decide +kernel⟩
theorem ok_Sky_iter (T : Tx K mg) : IterOk P w K mg base 1 (ga K "Sky") (He.ma K (ga K "Sky") "__iter__") := by
  obtain ⟨fd, F⟩ := T.f_Sky_iter
  have hb : Binds K fd ["self"] [] := F.bindsN fun _ _ _ _ _ _ us hl => match us, hl with | [_], _ => rfl
  intro A outer s H a dx fs l zs hr e0 ha hf hq
  obtain ⟨oc, od, dV, kV, doc, pm, an, cdv, ct, osl, efd, lk, hcd, _, _⟩ := F.ex
  subst efd
  have KX : K.In s.heap := e0.mod.kin.keeps fun b o e => (e0.bs b o e).1
  refine LamX.run_ofS (N := N_Skyiter) (ps := ["self"]) (us := [.ref a]) (vs := [.ref a]) lk hcd sc_Skyiter hr e0 (hb s [.ref a] KX rfl) (.cons rfl .nil) rfl fun hr2 => ?_
  refine ⟨_, pss_one (ps_ret (pe_callB ItX.call_iterN (by rfl) T.b_iter (by decide +kernel) (pa_cons (pe_fld (pv 0) rfl) pa_nil))), ?_⟩
  exact ⟨_, rfl, a, _, dx, fs, _, rfl, ha, T.c_Sky, T.n_Sky_sky_rows, hf, l, zs, rfl, hq, fun it hi hn => ⟨it, rfl, hi, hn, rfl⟩⟩
/-! ### == of skies -/
def rSkyEq (K : PySem.W.Frag) (a b : Addr) (H : Hp) : Prop := ∃ ns ds, SkyA K H a ns ds ∧ SkyA K H b ns ds
def DItem (K : PySem.W.Frag) : Eqv := fun x y H => DFlat x y H ∨ DIns (ga K "Cycle") (rCyEq K) x y H
theorem mon_cy (K : PySem.W.Frag) : Mon (DIns (ga K "Cycle") (rCyEq K)) := mon_ins fun a b H H' e ⟨d, x, y⟩ => ⟨d, x.mono e, y.mono e⟩
theorem mon_item (K : PySem.W.Frag) : Mon (DItem K) := Mon.or mon_flat (mon_cy K)
theorem rows_eq {K : PySem.W.Frag} {H : Hp} {l l2 : Addr} {rows rows2 : List V} {ns : List Str} {ds : List Rw} (hl : H l = some (.lst rows)) (hl2 : H l2 = some (.lst rows2)) (h : RowsV K H rows ns ds) (h2 : RowsV K H rows2 ns ds) :
    DList (DTup K (DItem K)) (.ref l) (.ref l2) H := by
  refine ⟨l, l2, rows, rows2, rfl, rfl, hl, hl2, by rw [h.l1, h2.l1], fun i x y hx hy => ?_⟩
  obtain ⟨n, d, hn, hd, t, c, rfl, ht, hc⟩ := h.at_ i x hx
  obtain ⟨n2, d2, hn2, hd2, t2, c2, rfl, ht2, hc2⟩ := h2.at_ i y hy
  rw [hn] at hn2; cases hn2
  rw [hd] at hd2; cases hd2
  refine ⟨t, t2, _, _, rfl, rfl, SqT.of ht, SqT.of ht2, .cons (.inl ⟨rfl, rfl, by rw [eqV_str]; simp⟩) (.cons (.inr ?_) .nil)⟩
  obtain ⟨dx, _, _, _, e, _⟩ := id hc
  obtain ⟨dy, _, _, _, e2, _⟩ := id hc2
  exact ⟨c, c2, dx, dy, _, _, rfl, rfl, e, e2, d, hc, hc2⟩
abbrev N_Sky_eq : List Str := ["self", "other"]
theorem sc_Sky_eq : FnScope N_Sky_eq ["self", "other"] (defScope S_Sky_eq) := ⟨rfl, rfl, rfl, by decide +kernel, rfl, by decide +kernel, by decide +kernel⟩
theorem ok_Sky_eq (T : Tx K mg) (d_Cycle_eq : OkM P w K mg base 1 "Cycle" "__eq__" ["self", "other"] (spEq (rCyEq K)))  : OkM P w K mg base 4 "Sky" "__eq__" ["self", "other"] (spEq (rSkyEq K)) := by
  obtain ⟨fd, F⟩ := T.f_Sky_eq
  have sc := sc_Sky_eq
  refine okMN (F := F)  (F.bindsN fun _ _ _ _ _ _ us hl => match us, hl with | [_, _], _ => rfl) sc spEq_len (fun cdv A outer s H vs Q E hr h => ?_)
  obtain ⟨a, b, rfl, h⟩ := h
  refine ⟨_, (pss_one (ps_ret (pe_and (pe_callB call_isi (by rfl) T.b_isinstance (by decide +kernel) (pa_cons (pv 1) (pa_cons (pe_glob (v := .ref (ga K "Sky")) rfl T.g_Sky rfl) pa_nil))) (pe_one (pe_cmpR (op_eqG (rcG_list (mon_tup (mon_item K)) (eqG_tup (mon_item K) (EqG.or (eqG_flat.mono (Nat.zero_le _)) (eqG_ins d_Cycle_eq.fn T.t_Cycle_eq.at_ T.t_Cycle_eq.fn d_Cycle_eq.b passL)))) (hr.mono (by decide))) (pe_fld (pv 0) rfl) (pe_fld (pv 1) rfl) (nomark _)))))), ?_⟩
  obtain ⟨⟨ns, ds, ha, hb⟩, h⟩ := h
  obtain ⟨dx, l, rows, ea, hl, hr1⟩ := ha
  obtain ⟨dy, l2, rows2, eb, hl2, hr2⟩ := hb
  refine ⟨_, rfl, _, _, _, _, true, rfl, .own _, .base (.ins eb T.c_Sky T.j_Sky.cl T.oc_get T.oc_tak T.j_Sky.hm), k_own, true, rfl, iteT ?_⟩
  refine ⟨_, rfl, a, _, dx, _, _, rfl, ea, T.c_Sky, T.n_Sky_sky_rows, rfl, _, rfl, b, _, dy, _, _, rfl, eb, T.c_Sky, T.n_Sky_sky_rows, rfl, rows_eq hl hl2 hr1 hr2, h⟩
/-! ### seen_from -/
def subRow (m d : Rw) : Rw := (d.1 - m.1, fr (d.2 - m.2))
def spSeen (K : PySem.W.Frag) : Sp := sp2 fun s v H Q E => ∃ p ns ds, s = .ref p ∧ SkyA K H p ns ds ∧ NamesOk ns ∧ ns.length ≤ 8 ∧ (∀ d ∈ ds, Big d.1 ∧ Big d.2) ∧ Nv H v ∧ (fitsB v = false → Rz K "BadValue" "what" (.str "name") H E) ∧
  (fitsB v = true → ∃ x : Str, v = .str x ∧ ((x ∉ ns ∧ Rz K "NoName" "name" (.str x) H E) ∨ (∃ (i : Nat) (m : Rw), ns[i]? = some x ∧ ds[i]? = some m ∧ ∀ q H', Same H H' → SkyN K H H' q ns (ds.map (subRow m)) → Q (.ref q) H')))
theorem nodup_first {ns : List Str} (h : ns.Nodup) {i : Nat} {x : Str} (hi : ns[i]? = some x) (j : Nat) (hj : j < i) : ns[j]? ≠ some x := by
  intro z
  obtain ⟨li, ei⟩ := List.getElem?_eq_some_iff.mp hi
  obtain ⟨lj, ej⟩ := List.getElem?_eq_some_iff.mp z
  have hz := (List.getElem_inj (h₀ := lj) (h₁ := li) h).mp (ej.trans ei.symm)
  omega
abbrev N_Sky_seen_from : List Str := ["self", "name", "middle", "known", "cycle"]
theorem sc_Sky_seen_from : FnScope N_Sky_seen_from ["self", "name"] (defScope S_Sky_seen_from) := ⟨rfl, rfl, rfl, by decide +kernel, rfl, by decide +kernel, by decide +kernel⟩
theorem ok_Sky_seen_from (T : Tx K mg) (d_Sky_init : OkM P w K mg base 3 "Sky" "__init__" ["self", "rows"] (spSkyInit K)) (d_Cycle_sub : OkM P w K mg base 6 "Cycle" "__sub__" ["self", "other"] (spCySub K)) (d_cycle_named : Ok P w K mg base 4 "cycle_named" ["rows", "name"] (spCyNamed K))  : OkM P w K mg base 7 "Sky" "seen_from" ["self", "name"] (spSeen K) := by
  obtain ⟨fd, F⟩ := T.f_Sky_seen_from
  have sc := sc_Sky_seen_from
  refine okMX (F := F)  (F.bindsN fun _ _ _ _ _ _ us hl => match us, hl with | [_, _], _ => rfl) sc sp2_len (fun cdv A outer s H vs Q E hr h => ?_)
  obtain ⟨u, v, rfl, h⟩ := h
  refine ⟨_, (pss_cons (ps_set (i := 2) sc.nd rfl (Or.inr rfl) (pe_f d_cycle_named (hr.mono (by decide)) rfl (passes_call (takes_of rfl rfl rfl rfl) fun _ _ _ _ z => z) (pa_cons (pe_fld (pv 0) rfl) (pa_cons (pv 1) pa_nil))))
      (pss_one (ps_ret (pe_make T.m_Sky d_Sky_init.fn (hr.mono (by decide)) rfl T.g_Sky d_Sky_init.b .nil (passes_call (takes_of rfl rfl rfl rfl) fun _ _ _ _ z => z) (pa_cons (pe_lc rfl sc.nd (pi_list (pe_fld (pv 0) rfl)) (blkOk_by (N := N_Sky_seen_from) (sc := defScope S_Sky_seen_from) (own := [("known", 3), ("cycle", 4)]) (by decide +kernel)) (fun _ _ _ _ _ => (pg_tupK (K := K) (n := 2) rfl rfl (pgs_cons (pg_name (i := 3) sc.nd rfl (Or.inl rfl)) (pgs_cons (pg_name (i := 4) sc.nd rfl (Or.inl rfl)) pgs_nil)) rfl rfl)) (fun _ _ _ _ _ => pts_nil) (fun _ _ _ _ _ => (pe_tup (pa_cons (pv 3) (pa_cons (pe_op (op_own (C := ga K "Cycle") d_Cycle_sub.fn (hr.mono (by decide)) T.selfCy T.t_Cycle_sub.at_ T.t_Cycle_sub.fn d_Cycle_sub.b passL) (pv 4) (pv 2)) pa_nil))))) pa_nil))))), ?_⟩
  obtain ⟨p, ns, ds, rfl, ⟨dx, l, rows, hp, hl, hrow⟩, hok, h8, hbig, hv, hbad, hgood⟩ := h
  have e1 := hrow.l1
  have e2 := hrow.l2
  refine ⟨_, rfl, p, _, dx, _, _, rfl, hp, T.c_Sky, T.n_Sky_sky_rows, rfl, _, rfl, _, _, rfl, l, rows, ns, ds, rfl, hl, hrow, hv, hbad, fun e => ?_⟩
  obtain ⟨x, rfl, hx⟩ := hgood e
  refine ⟨x, rfl, ?_⟩
  rcases hx with hx | ⟨i, m, hi, hm, h⟩
  · exact .inl hx
  · refine .inr ⟨i, m, hi, nodup_first hok.nd hi, hm, fun mq H1 s1 hmq => ?_⟩
    refine ⟨_, rfl, p, _, dx, _, _, rfl, s1 _ _ hp, T.c_Sky, T.n_Sky_sky_rows, rfl, l, rfl, ⟨_, SqL.of (s1 _ _ hl)⟩, fun D hD => ?_⟩
    refine lc_mapL (R := fun j y H' => ∃ n d, ns[j]? = some n ∧ ds[j]? = some d ∧ RowV K H' y n (subRow m d)) (xs := rows) (fun j y Ha Hb s ⟨n, d, a, b, c⟩ => ⟨n, d, a, b, c.monoL s⟩) (s1 _ _ hl) hD (line400 (by omega)) (fun j y H2 hj s2 k hk => ?_) (fun H2 ys s2 hy hn hr => ?_)
    · obtain ⟨n, d, hn, hd, t, c, rfl, ht, hc⟩ := hrow.at_ j y hj
      have s12 := Same.trans' s1 s2
      have hc2 := hc.mono s12
      have hm2 := hmq.mono s2
      obtain ⟨dx1, _, _, _, ec, _⟩ := id hc2
      obtain ⟨dx2, _, _, _, em, _⟩ := id hm2
      have bd := hbig d (List.mem_of_getElem? hd)
      have bm := hbig m (List.mem_of_getElem? hm)
      refine ⟨t, _, rfl, at2_0 (s12 _ _ ht), rfl, _, _, rfl, _, _, rfl, rfl, rfl, _, rfl, _, rfl, _, rfl, c, mq, dx1, dx2, _, _, rfl, rfl, ec, em, ?_⟩
      refine ⟨_, _, rfl, c, mq, d, m, rfl, rfl, hc2, hm2, bd.1, bd.2, bm.1, bm.2, fun r H3 s3 hr3 => ⟨⟨r, rfl⟩, line2, fun q hq => ?_⟩⟩
      refine hk _ _ (Same.new s3 hq) ⟨n, d, hn, hd, q, r, rfl, upd_same, hr3.mono (same_new hq)⟩
    · have rv : RowsV K H2 ys ns (ds.map (subRow m)) := ⟨by omega, by simp; omega, fun j y hj => by
        obtain ⟨n, d, a, b, c⟩ := hr j y hj
        exact ⟨n, subRow m d, a, by rw [List.getElem?_map, b]; rfl, c⟩⟩
      have s12 := Same.trans' s1 s2
      intro x2 dx2 hx2 hd2 hne
      have sm := same_made (o := .ins (ga K "Sky") dx2 []) (o' := .own x2) hx2 hd2
      refine ⟨_, _, rfl, x2, dx2, D, ys, ns, _, rfl, upd_same, rfl, sm _ _ hy, by omega, rv.mono sm, hok, fun H' sx hN => ⟨rfl, ?_⟩⟩
      exact h x2 H' (Same.trans' s12 (made hx2 hd2 sx)) (hN.mono (Same.trans' s12 sm))
end
end Wk
set_option maxHeartbeats 4000000
namespace Wk
open PySem PySem.Spec PyProof.Rows L2
section
variable {P : Program} {w : World} {K : PySem.W.Frag} {mg : Str → Option Value} {base : Heap}
/-! ### cycles in a list -/
structure CycX (K : PySem.W.Frag) (H : Hp) (xs : List V) (ds : List Rw) : Prop where
  len : xs.length = ds.length
  at_ : ∀ (i : Nat) (x : V), xs[i]? = some x → ∃ d, ds[i]? = some d ∧ CycV K H x d
theorem CycX.mono {H H' : Hp} {xs : List V} {ds : List Rw} (h : CycX K H xs ds) (s : Same H H') : CycX K H' xs ds := ⟨h.len, fun i x e => let ⟨d, a, b⟩ := h.at_ i x e; ⟨d, a, b.mono s⟩⟩
def spNeedCy (K : PySem.W.Frag) : Sp := sp1 fun a H Q _ => ∃ l xs ds, a = .ref l ∧ H l = some (.lst xs) ∧ CycX K H xs ds ∧ 2 ≤ xs.length ∧ xs.length ≤ 6 ∧ ∀ H', Same H H' → Q .non H'
abbrev N_need_cycles : List Str := ["cycles", "cycle"]
theorem sc_need_cycles : FnScope N_need_cycles ["cycles"] (defScope S_need_cycles) := ⟨rfl, rfl, rfl, by decide +kernel, rfl, by decide +kernel, by decide +kernel⟩
theorem ok_need_cycles (T : Tx K mg)   : Ok P w K mg base 1 "need_cycles" ["cycles"] (spNeedCy K) := by
  obtain ⟨fd, F⟩ := T.f_need_cycles
  have sc := sc_need_cycles
  refine okFN (F := F) T.g_need_cycles F.kp (F.bindsN fun _ _ _ _ _ _ us hl => match us, hl with | [_], _ => rfl) sc sp1_len (fun cdv A outer s H vs Q E hr h => ?_)
  obtain ⟨u, rfl, h⟩ := h
  refine ⟨_, (pss_cons (ps_if (PW.pt (pw_or (pt_not (pt_val (pe_callB call_isi (by rfl) T.b_isinstance (by decide +kernel) (pa_cons (pv 0) (pa_cons (pe_bltn (v := .ty "list") rfl T.b_list (by decide +kernel) rfl) pa_nil))))) (pw_or1 (pt_not (pt_chain op_le op_le (pe_glob (v := .int 2) rfl (T.i_LEAST_CYCLES).choose_spec ⟨_, rfl⟩) (pe_callB call_len (by rfl) T.b_len PySem.boot_len (pa_cons (pv 0) pa_nil)) (pe_glob (v := .int 6) rfl (T.i_MOST_CYCLES_meetings).choose_spec ⟨_, rfl⟩)))))) (pss_one ps_never) pss_nil)
      (pss_one (ps_if (pt_not (pt_val (pe_callB (cr_all rfl) (by rfl) T.b_all (by decide +kernel) (pa_cons (pe_lc rfl sc.nd (pi_list (pv 0)) (blkOk_by (N := N_need_cycles) (sc := defScope S_need_cycles) (own := [("cycle", 1)]) (by decide +kernel)) (fun _ _ _ _ _ => (pg_name (i := 1) sc.nd rfl (Or.inl rfl))) (fun _ _ _ _ _ => pts_nil) (fun _ _ _ _ _ => (pe_callB (call_isiC (K := K) rfl) (by rfl) T.b_isinstance (by decide +kernel) (pa_cons (pv 1) (pa_cons (pe_glob (v := .ref (ga K "Cycle")) rfl T.g_Cycle rfl) pa_nil))))) pa_nil)))) (pss_one ps_never) pss_nil))), ?_⟩
  obtain ⟨l, xs, ds, rfl, hl, hx, h2, h6, h⟩ := h
  refine ⟨_, rfl, _, _, _, _, true, rfl, .ty _, .base (.lst hl), k_lst_lst, true, rfl, iteF ?_⟩
  refine ⟨_, rfl, _, _, rfl, lenL hl, _, _, rfl, rfl, _, rfl, ifD (fun _ => ?_) (fun n => absurd (by show (2 : Int) ≤ (xs.length : Int); omega) n)⟩
  refine ⟨_, _, rfl, rfl, _, rfl, ifN (by show (xs.length : Int) ≤ 6; omega) ?_⟩
  refine ⟨_, rfl, l, rfl, ⟨_, SqL.of hl⟩, fun D hD => ?_⟩
  refine lc_mapL (R := fun _ y _ => y = .bl true) (xs := xs) (fun _ _ _ _ _ z => z) hl hD (line400 (by omega)) (fun i x H' hi s k hk => ?_) (fun H' ys s hy hn hr => ?_)
  · obtain ⟨d, _, p, rfl, dx, fa, fs, fp, e, _⟩ := hx.at_ i x hi
    exact ⟨rfl, _, rfl, _, _, _, _, true, rfl, .own _, .base (.ins (s _ _ e) T.c_Cycle T.j_Cycle.cl T.oc_get T.oc_tak T.j_Cycle.hm), k_own, hk _ _ Same.rfl' rfl⟩
  · refine ⟨D, List.replicate ys.length true, rfl, ?_, ?_⟩
    · rw [← bls_of hr]; exact SqL.of hy
    · rw [all_rep]
      exact ⟨true, rfl, iteF (h H' s)⟩
/-! ### weighed -/
def spWeighed : Sp := sp2 fun a b H Q _ => ∃ p l ws xs rs, a = .ref p ∧ b = .ref l ∧ H p = some (.tup (ws.map V.int)) ∧ H l = some (.lst xs) ∧ FrX H xs rs ∧ ws.length = rs.length ∧ rs.length ≤ 5 ∧ (∀ u ∈ ws, u.natAbs < 2 ^ 501) ∧ (∀ r ∈ rs, Sz 40 r) ∧
  ∀ q H', Same H H' → H' q = some (frO (wsum ws rs)) → Sz 2750 (wsum ws rs) → Q (.ref q) H'
theorem wsum_nil (rs : List Rat) : wsum [] rs = 0 := by cases rs <;> rfl
abbrev N_weighed : List Str := ["weights", "values", "total", "weight", "value"]
theorem sc_weighed : FnScope N_weighed ["weights", "values"] (defScope S_weighed) := ⟨rfl, rfl, rfl, by decide +kernel, rfl, by decide +kernel, by decide +kernel⟩
theorem ok_weighed (T : Tx K mg) (d_plus : Ok P w K mg base 4 "plus" ["left", "right"] (spBin (fun x y => x + y) noC)) (d_times : Ok P w K mg base 4 "times" ["left", "right"] (spBin (fun x y => x * y) noC))  : Ok P w K mg base 5 "weighed" ["weights", "values"] spWeighed := by
  obtain ⟨fd, F⟩ := T.f_weighed
  have sc := sc_weighed
  refine okFN (F := F) T.g_weighed F.kp (F.bindsN fun _ _ _ _ _ _ us hl => match us, hl with | [_, _], _ => rfl) sc sp2_len (fun cdv A outer s H vs Q E hr h => ?_)
  obtain ⟨u, v, rfl, h⟩ := h
  refine ⟨_, (pss_cons (ps_set (i := 2) sc.nd rfl (Or.inl rfl) (pe_tup (pa_cons pe_int (pa_cons pe_int pa_nil))))
      (pss_cons (ps_for PassesOwn.never rfl (pi_zipM (by rfl) T.b_zip (pa_cons (pv 0) (pa_cons (pv 1) pa_nil))) (pg_tup rfl (pgs_cons (pg_name (i := 3) sc.nd rfl (Or.inl rfl)) (pgs_cons (pg_name (i := 4) sc.nd rfl (Or.inl rfl)) pgs_nil))) (pss_one (ps_set (i := 2) sc.nd rfl (Or.inl rfl) (pe_f d_plus (hr.mono (by decide)) rfl passL (pa_cons (pv 2) (pa_cons (pe_f d_times (hr.mono (by decide)) rfl passL (pa_cons (pe_tup (pa_cons (pv 3) (pa_cons pe_int pa_nil))) (pa_cons (pv 4) pa_nil))) pa_nil))))))
      (pss_one (ps_ret (pv 2))))), ?_⟩
  obtain ⟨p, l, ws, xs, rs, rfl, rfl, hp, hl, hx, hlen, h5, bw, br, h⟩ := h
  have e1 := hx.len
  refine ⟨line2, fun q hq => ?_⟩
  have s1 := same_new (o := frO 0) hq
  refine ⟨_, rfl, _, rfl, p, l, ws.map V.int, xs, rfl, SqT.of (s1 _ _ hp), SqL.of (s1 _ _ hl), ?_⟩
  refine for_zipM (xs := ws.map V.int) (ys := xs) (by simp; omega) (fun i σ H' => ∃ (tv : V) (o3 o4 : Option V), σ = [some (.ref p), some (.ref l), some tv, o3, o4] ∧ Same H H' ∧ FrV H' tv (wsum (ws.take i) (rs.take i)) ∧ Sz (1 + 542 * i) (wsum (ws.take i) (rs.take i))) ?_ ?_ ?_ ?_
  · refine ⟨_, _, _, rfl, s1, ⟨q, rfl, ?_⟩, ?_⟩
    · rw [List.take_zero, wsum_nil]; exact upd_same
    · rw [List.take_zero, wsum_nil]; exact ⟨by decide, by decide⟩
  · rintro i σ H' ⟨tv, o3, o4, rfl, s, _⟩
    exact ⟨SqT.of (s _ _ hp), SqL.of (s _ _ hl)⟩
  · rintro i x y t σ H' hi hj ⟨tv, o3, o4, rfl, s, ft, bt⟩ ht
    obtain ⟨k, hk, rfl⟩ := map_get hi
    obtain ⟨r, hr0, fr0_⟩ := hx.at_ i y hj
    have s2 := Same.new (o := .tup [.int k, y]) s ht
    have li := (List.getElem?_eq_some_iff.mp hj).1
    refine ⟨t, _, rfl, sq2i, rfl, _, _, rfl, _, _, rfl, rfl, ?_⟩
    refine ⟨_, rfl, _, rfl, line2, fun r1 hr1 => ?_⟩
    have s3 := Same.new (o := frO (k : Rat)) s2 hr1
    have bk := bw k (List.mem_of_getElem? hk)
    have b2 := br r (List.mem_of_getElem? hr0)
    refine ⟨_, rfl, _, _, rfl, (k : Rat), r, ⟨r1, rfl, upd_same⟩, fr0_.mono s3, (Sz.int bk (by decide)).mono (by decide), b2.mono (by decide), trivial, fun r2 hr2 => ?_⟩
    have s4 := Same.new (o := frO ((k : Rat) * r)) s3 hr2
    have ft4 := ((ft.mono (same_new (o := .tup [.int k, y]) ht)).mono (same_new (o := frO (k : Rat)) hr1)).mono (same_new (o := frO ((k : Rat) * r)) hr2)
    have bm := (Sz.int bk (by decide)).mul b2
    refine ⟨_, _, rfl, wsum (ws.take i) (rs.take i), (k : Rat) * r, ft4, ⟨r2, rfl, upd_same⟩, bt.mono (by omega), bm.mono (by decide), trivial, fun r3 hr3 => ?_⟩
    have e := wsum_take hk hr0
    refine ⟨_, _, _, rfl, Same.new s4 hr3, ⟨r3, rfl, ?_⟩, ?_⟩
    · rw [e]; exact upd_same
    · rw [e]; exact (bt.add bm).mono (by omega)
  · rintro σ H' ⟨tv, o3, o4, rfl, s, ⟨t, rfl, ft⟩, bt⟩
    have e2 : ws.take (ws.map V.int).length = ws := List.take_of_length_le (by simp)
    have e3 : rs.take (ws.map V.int).length = rs := List.take_of_length_le (by simp; omega)
    rw [e2, e3] at ft bt
    have hlm : (ws.map V.int).length = rs.length := by simp [hlen]
    rw [hlm] at bt
    exact ⟨_, rfl, h t H' s ft (bt.mono (by omega))⟩
/-! ### never_weights: nothing is said of the value -/
def spNever : Sp := sp3 fun a b c H Q _ => ∃ (j : Nat) (p l : Addr) (ws cs : List Int), a = .int j ∧ b = .ref p ∧ c = .ref l ∧ H p = some (.tup (ws.map V.int)) ∧ H l = some (.lst (cs.map V.int)) ∧ j < ws.length ∧ j < cs.length ∧ ws.length ≤ 5 ∧ (∀ u ∈ ws, u.natAbs < 2 ^ 501) ∧ (∀ u ∈ cs, u.natAbs < 2 ^ 200) ∧
  ∀ q H', Same H H' → Q (.ref q) H'
theorem ixNat {n j : Nat} (hj : j < n) : ixN n (j : Int) = some j := by
  unfold ixN
  rw [if_pos (by omega), if_pos (by omega)]
  simp
theorem ints_ex : ∀ {ys : List V}, (∀ y ∈ ys, ∃ z : Int, y = .int z) → ∃ zs : List Int, ys = zs.map V.int
  | [], _ => ⟨[], rfl⟩
  | y :: r, h => by
    obtain ⟨z, rfl⟩ := h y List.mem_cons_self
    obtain ⟨zs, rfl⟩ := ints_ex (ys := r) fun y hy => h y (List.mem_cons_of_mem _ hy)
    exact ⟨z :: zs, rfl⟩
abbrev N_never_weights : List Str := ["at", "weights", "counts", "own", "weight"]
theorem sc_never_weights : FnScope N_never_weights ["at", "weights", "counts"] (defScope S_never_weights) := ⟨rfl, rfl, rfl, by decide +kernel, rfl, by decide +kernel, by decide +kernel⟩
theorem ok_never_weights (T : Tx K mg)   : Ok P w K mg base 1 "never_weights" ["at", "weights", "counts"] spNever := by
  obtain ⟨fd, F⟩ := T.f_never_weights
  have sc := sc_never_weights
  refine okFN (F := F) T.g_never_weights F.kp (F.bindsN fun _ _ _ _ _ _ us hl => match us, hl with | [_, _, _], _ => rfl) sc sp3_len (fun cdv A outer s H vs Q E hr h => ?_)
  obtain ⟨u, v, z, rfl, h⟩ := h
  refine ⟨_, (pss_cons (ps_setLc (i := 3) rfl sc.nd rfl rfl (sw_true rfl rfl rfl (by decide +kernel)) (pi_tup (pv 1)) (blkOk_by (N := N_never_weights) (sc := defScope S_never_weights) (own := [("weight", 4)]) (by decide +kernel)) (fun _ _ _ _ _ => (pg_name (i := 4) sc.nd rfl (Or.inl rfl))) (fun _ _ _ _ _ => pts_nil) (fun _ _ _ _ _ => (pe_op op_mulW (pe_un un_neg (pe_ix (ix_listK (K := K) rfl) (pv 2) (pv 0) (fun _ _ => rfl))) (pv 4))))
      (pss_cons (ps_asg (pe_op op_add (pe_ix ix_list (pv 3) (pv 0) (fun _ _ => rfl)) pe_int) (pg_sub (pv 3) (pv 0) set_list))
      (pss_one (ps_ret (pe_op op_catT (pe_tup (pa_cons (pe_un un_neg (pe_callB (cr_sum rfl) (by rfl) T.b_sum (by decide +kernel) (pa_cons (pv 3) pa_nil))) pa_nil)) (pe_callTy call_tuple_of (by rfl) T.b_tuple (by decide +kernel) (pa_cons (pv 3) pa_nil))))))), ?_⟩
  obtain ⟨j, p, l, ws, cs, rfl, rfl, rfl, hp, hl, jw, jc, h5, bw, bc, h⟩ := h
  refine ⟨_, rfl, p, rfl, ⟨_, SqT.of hp⟩, fun D hD => ?_⟩
  have ej : cs[j]? = some cs[j] := List.getElem?_eq_getElem jc
  have ej2 : (cs.map V.int)[j]? = some (.int cs[j]) := by rw [List.getElem?_map, ej]; rfl
  refine lc_mapW (R := fun i y _ => ∃ z : Int, y = .int z) (walk_tup (K := K) (a := p) (xs := ws.map V.int)) (fun _ _ _ _ y => y.1) (fun H s => SqT.of (s _ _ hp)) (fun _ _ _ _ _ z => z) hD (line400 (by simp; omega)) (fun i x H' hi s y k hk => ?_) (fun H' ys s hy hn hr => ?_)
  · obtain ⟨w0, hw0, rfl⟩ := map_get y.2
    have b1 := bc cs[j] (List.mem_of_getElem? ej)
    have b2 := bw w0 (List.mem_of_getElem? hw0)
    refine ⟨rfl, _, rfl, _, rfl, l, _, _, _, rfl, rfl, SqL.of (s _ _ hl), atI_nat ej2, _, rfl, _, rfl, _, _, rfl, rfl, cmul (by rw [Int.natAbs_neg]; exact b1) b2, hk _ _ Same.rfl' ⟨_, rfl⟩⟩
  · have hlen : ys.length = ws.length := by rw [hn, List.length_map]
    obtain ⟨zs, rfl⟩ := ints_ex (ys := ys) fun y hy => by
      obtain ⟨i, hi, e⟩ := List.getElem_of_mem hy
      exact hr i y (by rw [← e]; exact List.getElem?_eq_getElem hi)
    have zl : zs.length = ws.length := by simpa using hlen
    have ez : (zs.map V.int)[j]? = some (.int (zs[j]'(by omega))) := by rw [List.getElem?_map, List.getElem?_eq_getElem (by omega)]; rfl
    have D0 : H D = none := hD
    refine ⟨_, rfl, _, rfl, D, _, _, _, rfl, rfl, SqL.of hy, atI_nat ez, _, _, rfl, rfl, _, rfl, _, rfl, D, zs.map V.int, _, j, rfl, rfl, hy, ixNat (by simp; omega), ?_⟩
    have em : (zs.map V.int).set j (.int (zs[j]'(by omega) + 1)) = (zs.set j (zs[j]'(by omega) + 1)).map V.int := by rw [List.map_set]
    have hy2 : upd H' D (.lst ((zs.map V.int).set j (.int (zs[j]'(by omega) + 1)))) D = some (.lst ((zs.set j (zs[j]'(by omega) + 1)).map V.int)) := by rw [upd_same, em]
    refine ⟨_, rfl, D, zs.set j (zs[j]'(by omega) + 1), rfl, SqL.of hy2, _, rfl, line1, fun t ht => ?_⟩
    have hy3 := same_new (o := .tup [.int (-(zs.set j (zs[j]'(by omega) + 1)).sum)]) ht D _ hy2
    have ne : (zs.set j (zs[j]'(by omega) + 1)).map V.int ≠ [] := by
      intro e
      have := congrArg List.length e
      simp at this
      subst this
      simp at zl
      omega
    refine ⟨_, rfl, D, _, rfl, .inl ⟨SqL.of hy3, fun t2 ht2 => ?_⟩⟩
    refine ⟨t, t2, [.int (-(zs.set j (zs[j]'(by omega) + 1)).sum)], _, rfl, rfl, SqT.of (same_new ht2 _ _ upd_same), SqT.of upd_same, by simp, Nat.le_trans (show _ ≤ 10 by simp; omega) (by decide), fun e => absurd e ne, fun _ r hr3 => ?_⟩
    exact h r _ (Same.new (Same.new (Same.new (Same.own D0 s) ht) ht2) hr3)
end
end Wk
set_option maxHeartbeats 4000000
namespace Wk
open PySem PySem.Spec PyProof.Rows L2
section
variable {P : Program} {w : World} {K : PySem.W.Frag} {mg : Str → Option Value} {base : Heap}
/-! ### the paper, the rule -/
def PaperT (H : Hp) (t : Addr) : Rule → Prop
  | none => ∃ x, H t = some (.tup [.str "never", x])
  | some (_, none) => H t = some (.tup [.str "always"])
  | some (f, some I) => ∃ p q x, H t = some (.tup [.str "every", p, q, x]) ∧ FrV H p f ∧ FrV H q I
/-- cycles whose differences are small -/
structure SmallD (d0 : Rw) (dr : List Rw) : Prop where
  n1 : 1 ≤ dr.length
  n5 : dr.length ≤ 5
  big : ∀ d ∈ d0 :: dr, Big d.1 ∧ Big d.2
  sz : ∀ d ∈ diffs d0 dr, Sz 19 d.1 ∧ Sz 40 d.2
def spPaper (K : PySem.W.Frag) : Sp := sp1 fun a H Q _ => ∃ l xs d0 dr, a = .ref l ∧ H l = some (.lst xs) ∧ CycX K H xs (d0 :: dr) ∧ SmallD d0 dr ∧ ∀ R t H', Same H H' → RuleFor (Md (diffs d0 dr)) R → PaperT H' t R → Q (.ref t) H'
theorem ints_mapA {α : Type} {l : List α} {f : α → Int} {ys : List V} (hl : ys.length = l.length) (h : ∀ (i : Nat) (y : V), ys[i]? = some y → ∃ u, l[i]? = some u ∧ y = .int (f u)) : ys = (l.map f).map V.int := by
  apply List.ext_getElem?
  intro i
  rw [List.getElem?_map, List.getElem?_map]
  cases q : ys[i]? with
  | none =>
    have := List.getElem?_eq_none_iff.mp q
    rw [List.getElem?_eq_none (by omega)]; rfl
  | some y =>
    obtain ⟨u, hu, hy⟩ := h i y q
    rw [hu, hy]; rfl
theorem frX_of {H : Hp} {ys : List V} {α : Type} {l : List α} {f : α → Rat} (hl : ys.length = l.length) (h : ∀ (i : Nat) (y : V), ys[i]? = some y → ∃ u, l[i]? = some u ∧ FrV H y (f u)) : FrX H ys (l.map f) :=
  ⟨by simp [hl], fun i x e => let ⟨u, hu, hf⟩ := h i x e; ⟨f u, by rw [List.getElem?_map, hu]; rfl, hf⟩⟩
theorem diffs_get {d0 : Rw} {dr : List Rw} {i : Nat} {d : Rw} (h : dr[i]? = some d) : (diffs d0 dr)[i]? = some (d.1 - d0.1, d.2 - d0.2) := by
  unfold diffs
  rw [List.getElem?_map, h]; rfl
theorem cnt_lt {g r : Rat} (hg : Sz 96 g) (hr : Sz 19 r) : (cnt g r).natAbs < 2 ^ 200 := by
  unfold cnt
  split
  · decide
  · rename_i h
    have g0 : g ≠ 0 := fun e => h (by rw [e]; rfl)
    exact lt_mono (hr.div hg g0).1 (by decide)
theorem cut1 (x : V) (xs : List V) : cutV (x :: xs) (some 1) none = xs := by
  have h : HT.sIx (xs.length + 1) 0 (some 1) = 1 := by
    unfold HT.sIx
    simp
    try omega
  have h2 : HT.sIx (xs.length + 1) (xs.length + 1) none = xs.length + 1 := rfl
  unfold cutV
  rw [List.length_cons, h, h2]
  simp
theorem line4 : (4 : Nat) ≤ sizeLine := by decide
theorem den_one {x : Rat} : ((x.den : Int) = 1) ↔ Whole x := by
  rw [whole_iff]
  omega
abbrev N_meeting_paper : List Str := ["cycles", "lead", "rates", "cycle", "starts", "measure", "weights", "counts", "rate", "ahead", "at", "start", "left", "interval", "first"]
theorem sc_meeting_paper : FnScope N_meeting_paper ["cycles"] (defScope S_meeting_paper) := ⟨rfl, rfl, rfl, by decide +kernel, rfl, by decide +kernel, by decide +kernel⟩
theorem ok_meeting_paper (T : Tx K mg) (d_times : Ok P w K mg base 4 "times" ["left", "right"] (spBin (fun x y => x * y) noC)) (d_part_of : Ok P w K mg base 4 "part_of" ["value"] spPart) (d_minus : Ok P w K mg base 4 "minus" ["left", "right"] (spBin (fun x y => x - y) noC)) (d_over : Ok P w K mg base 4 "over" ["left", "right"] (spBin (fun x y => x / y) nzC)) (d_never_weights : Ok P w K mg base 1 "never_weights" ["at", "weights", "counts"] spNever) (d_weighed : Ok P w K mg base 5 "weighed" ["weights", "values"] spWeighed) (d_measure_paper : Ok P w K mg base 4 "measure_paper" ["values"] spMp) (d_need_cycles : Ok P w K mg base 1 "need_cycles" ["cycles"] (spNeedCy K))  : Ok P w K mg base 6 "meeting_paper" ["cycles"] (spPaper K) := by
  obtain ⟨fd, F⟩ := T.f_meeting_paper
  have sc := sc_meeting_paper
  refine okFN (F := F) T.g_meeting_paper F.kp (F.bindsN fun _ _ _ _ _ _ us hl => match us, hl with | [_], _ => rfl) sc sp1_len (fun cdv A outer s H vs Q E hr h => ?_)
  obtain ⟨u, rfl, h⟩ := h
  refine ⟨_, (pss_cons (ps_expr (pe_f d_need_cycles (hr.mono (by decide)) rfl passL (pa_cons (pv 0) pa_nil)))
      (pss_cons (ps_set (i := 1) sc.nd rfl (Or.inr rfl) (pe_ix ix_list (pv 0) pe_int (fun _ _ => rfl)))
      (pss_cons (ps_setLc (i := 2) rfl sc.nd rfl rfl (sw_true rfl rfl rfl (by decide +kernel)) (pi_list (pe_slice sl_list (pv 0) (po_some pe_int) po_none)) (blkOk_by (N := N_meeting_paper) (sc := defScope S_meeting_paper) (own := [("cycle", 3)]) (by decide +kernel)) (fun _ _ _ _ _ => (pg_name (i := 3) sc.nd rfl (Or.inl rfl))) (fun _ _ _ _ _ => pts_nil) (fun _ _ _ _ _ => (pe_f d_minus (hr.mono (by decide)) rfl passL (pa_cons (pe_fldK (K := K) rfl (pv 3) rfl) (pa_cons (pe_fldK (K := K) rfl (pv 1) rfl) pa_nil)))))
      (pss_cons (ps_setLc (i := 4) rfl sc.nd rfl rfl (sw_true rfl rfl rfl (by decide +kernel)) (pi_list (pe_slice sl_list (pv 0) (po_some pe_int) po_none)) (blkOk_by (N := N_meeting_paper) (sc := defScope S_meeting_paper) (own := [("cycle", 3)]) (by decide +kernel)) (fun _ _ _ _ _ => (pg_name (i := 3) sc.nd rfl (Or.inl rfl))) (fun _ _ _ _ _ => pts_nil) (fun _ _ _ _ _ => (pe_f d_minus (hr.mono (by decide)) rfl passL (pa_cons (pe_fldK (K := K) rfl (pv 3) rfl) (pa_cons (pe_fldK (K := K) rfl (pv 1) rfl) pa_nil)))))
      (pss_cons (ps_asg (pe_f d_measure_paper (hr.mono (by decide)) rfl passL (pa_cons (pv 2) pa_nil)) (pg_tup rfl (pgs_cons (pg_name (i := 5) sc.nd rfl (Or.inr rfl)) (pgs_cons (pg_name (i := 6) sc.nd rfl (Or.inl rfl)) pgs_nil))))
      (pss_cons (ps_setLc (i := 7) rfl sc.nd rfl rfl (sw_true rfl rfl rfl (by decide +kernel)) (pi_list (pv 2)) (blkOk_by (N := N_meeting_paper) (sc := defScope S_meeting_paper) (own := [("rate", 8)]) (by decide +kernel)) (fun _ _ _ _ _ => (pg_name (i := 8) sc.nd rfl (Or.inl rfl))) (fun _ _ _ _ _ => pts_nil) (fun _ _ _ _ _ => (pe_ifExp (pt_cmpR op_eq (pe_ix (ix_tupK (K := K) rfl) (pv 5) pe_int (fun _ _ => rfl)) pe_int (nomark _)) pe_int (pe_ix (ix_tupK (K := K) rfl) (pe_f d_over (hr.mono (by decide)) rfl passL (pa_cons (pv 8) (pa_cons (pv 5) pa_nil))) pe_int (fun _ _ => rfl)))))
      (pss_cons (ps_set (i := 9) sc.nd rfl (Or.inl rfl) (pe_f d_weighed (hr.mono (by decide)) rfl passL (pa_cons (pv 6) (pa_cons (pv 4) pa_nil))))
      (pss_cons (ps_for PassesOwn.never rfl (pi_enum (by rfl) T.b_enumerate (pa_cons (pv 4) pa_nil)) (pg_tup rfl (pgs_cons (pg_name (i := 10) sc.nd rfl (Or.inl rfl)) (pgs_cons (pg_name (i := 11) sc.nd rfl (Or.inl rfl)) pgs_nil))) (pss_cons (ps_set (i := 12) sc.nd rfl (Or.inl rfl) (pe_f d_minus (hr.mono (by decide)) rfl passL (pa_cons (pv 11) (pa_cons (pe_f d_times (hr.mono (by decide)) rfl passL (pa_cons (pe_tup (pa_cons (pe_ix ix_list (pv 7) (pv 10) (fun _ _ => rfl)) (pa_cons pe_int pa_nil))) (pa_cons (pv 9) pa_nil))) pa_nil))))
      (pss_one (ps_if (pt_cmpR op_ne (pe_ix ix_tup (pv 12) pe_int (fun _ _ => rfl)) pe_int (nomark _)) (pss_one (ps_ret (pe_tup (pa_cons pe_str (pa_cons (pe_f d_never_weights (hr.mono (by decide)) rfl passL (pa_cons (pv 10) (pa_cons (pv 6) (pa_cons (pv 7) pa_nil)))) pa_nil))))) pss_nil))))
      (pss_cons (ps_if (pt_cmpR op_eq (pe_ix ix_tup (pv 5) pe_int (fun _ _ => rfl)) pe_int (nomark _)) (pss_one (ps_ret (pe_tup (pa_cons pe_str pa_nil)))) pss_nil)
      (pss_cons (ps_set (i := 13) sc.nd rfl (Or.inl rfl) (pe_f d_over (hr.mono (by decide)) rfl passL (pa_cons (pe_tup (pa_cons pe_int (pa_cons pe_int pa_nil))) (pa_cons (pv 5) pa_nil))))
      (pss_cons (ps_set (i := 14) sc.nd rfl (Or.inl rfl) (pe_f d_times (hr.mono (by decide)) rfl passL (pa_cons (pe_f d_part_of (hr.mono (by decide)) rfl passL (pa_cons (pe_f d_minus (hr.mono (by decide)) rfl passL (pa_cons (pe_tup (pa_cons pe_int (pa_cons pe_int pa_nil))) (pa_cons (pv 9) pa_nil))) pa_nil)) (pa_cons (pv 13) pa_nil))))
      (pss_one (ps_ret (pe_tup (pa_cons pe_str (pa_cons (pv 14) (pa_cons (pv 13) (pa_cons (pe_op op_catT (pe_tup (pa_cons pe_int pa_nil)) (pe_callTy call_tuple_of (by rfl) T.b_tuple (by decide +kernel) (pa_cons (pv 7) pa_nil))) pa_nil)))))))))))))))))), ?_⟩
  obtain ⟨l, xs, d0, dr, rfl, hl, hx, sd, h⟩ := h
  have n1 := sd.n1
  have n5 := sd.n5
  have xl := hx.len
  simp only [List.length_cons] at xl
  refine ⟨_, rfl, _, rfl, l, xs, _, rfl, hl, hx, by omega, by omega, fun H1 s1 => ?_⟩
  cases xs with
  | nil => simp at xl
  | cons x0 xr =>
  simp only [List.length_cons] at xl
  obtain ⟨_, e0, hc0⟩ := hx.at_ 0 x0 rfl
  cases e0
  have hl1 := s1 _ _ hl
  have b0 := sd.big d0 List.mem_cons_self
  refine ⟨_, rfl, l, _, _, _, rfl, rfl, SqL.of hl1, at_0, ?_⟩
  obtain ⟨c0, rfl, hc0⟩ := hc0
  -- rates
  refine ⟨_, rfl, _, rfl, l, _, rfl, SqL.of (s1 _ _ hl), fun p2 hp2 => ?_⟩
  refine ⟨p2, rfl, ⟨_, SqL.of upd_same⟩, fun D2 hD2 => ?_⟩
  refine lc_mapL (R := fun i y Ha => ∃ d, dr[i]? = some d ∧ FrV Ha y (d.1 - d0.1)) (xs := xr) (fun i y Ha Hb s ⟨d, a, b⟩ => ⟨d, a, b.monoL s⟩) (by rw [cut1]; exact upd_same) hD2 (line400 (by omega)) (fun i x H2 hi t2 k hk => ?_) (fun H2 ys2 t2 hy2 hn2 hr2 => ?_)
  · obtain ⟨d, hd, c, rfl, hc⟩ := hx.at_ (i + 1) x hi
    have sx := Same.trans' (Same.new s1 hp2) t2
    have hd : dr[i]? = some d := hd
    obtain ⟨dx, fa, fs, fp, ec, ra, sa, _⟩ := hc.mono sx
    obtain ⟨dy, ga_, gs, gp, em, rm, sm, _⟩ := hc0.mono sx
    have bd := sd.big d (List.mem_cons_of_mem _ (List.mem_of_getElem? hd))
    refine ⟨rfl, _, rfl, c, _, dx, _, _, rfl, ec, T.c_Cycle, T.n_Cycle_rate, rfl, _, rfl, c0, _, dy, _, _, rfl, em, T.c_Cycle, T.n_Cycle_rate, rfl, _, _, rfl, d.1, d0.1, ra, rm, bd.1, b0.1, trivial, fun q hq => hk _ _ (same_new hq) ⟨d, hd, q, rfl, upd_same⟩⟩
  have s2 := Same.trans' (Same.new s1 hp2) t2
  have fx2 : FrX H2 ys2 (dr.map fun d => d.1 - d0.1) := frX_of (by omega) hr2
  -- starts
  refine ⟨_, rfl, _, rfl, l, _, rfl, SqL.of (s2 _ _ hl), fun p3 hp3 => ?_⟩
  refine ⟨p3, rfl, ⟨_, SqL.of upd_same⟩, fun D3 hD3 => ?_⟩
  refine lc_mapL (R := fun i y Ha => ∃ d, dr[i]? = some d ∧ FrV Ha y (d.2 - d0.2)) (xs := xr) (fun i y Ha Hb s ⟨d, a, b⟩ => ⟨d, a, b.monoL s⟩) (by rw [cut1]; exact upd_same) hD3 (line400 (by omega)) (fun i x H2 hi t2 k hk => ?_) (fun H3 ys3 t3 hy3 hn3 hr3 => ?_)
  · obtain ⟨d, hd, c, rfl, hc⟩ := hx.at_ (i + 1) x hi
    have sx := Same.trans' (Same.new s2 hp3) t2
    have hd : dr[i]? = some d := hd
    obtain ⟨dx, fa, fs, fp, ec, ra, sa, _⟩ := hc.mono sx
    obtain ⟨dy, ga_, gs, gp, em, rm, sm, _⟩ := hc0.mono sx
    have bd := sd.big d (List.mem_cons_of_mem _ (List.mem_of_getElem? hd))
    refine ⟨rfl, _, rfl, c, _, dx, _, _, rfl, ec, T.c_Cycle, T.n_Cycle_start, rfl, _, rfl, c0, _, dy, _, _, rfl, em, T.c_Cycle, T.n_Cycle_start, rfl, _, _, rfl, d.2, d0.2, sa, sm, bd.2, b0.2, trivial, fun q hq => hk _ _ (same_new hq) ⟨d, hd, q, rfl, upd_same⟩⟩
  have s3 := Same.trans' (Same.new s2 hp3) t3
  have fx3 : FrX H3 ys3 (dr.map fun d => d.2 - d0.2) := frX_of (by omega) hr3
  have hy2' := Same.new (o := .lst (cutV (.ref c0 :: xr) (some 1) none)) (Same.rfl' (H := H2)) hp3 _ _ hy2
  have hy23 := t3 _ _ hy2'
  have fx23 : FrX H3 ys2 (dr.map fun d => d.1 - d0.1) := (fx2.mono (same_new hp3)).mono t3
  refine ⟨_, rfl, _, rfl, D2, ys2, _, rfl, hy23, fx23, by simp; omega, by simp; omega, fun r hr => ?_, fun g ws M bg bw pm pw t H4 s34 hpm hpw ht => ?_⟩
  · obtain ⟨d, hd, rfl⟩ := List.mem_map.mp hr
    exact (sd.sz _ (List.mem_map.mpr ⟨d, hd, rfl⟩)).1
  refine ⟨t, _, rfl, SqT.of ht, rfl, _, _, rfl, _, _, rfl, rfl, ?_⟩
  have s4 := Same.trans' s3 s34
  have hy24 := s34 _ _ hy23
  have hy34 := s34 _ _ hy3
  -- counts
  refine ⟨_, rfl, D2, rfl, ⟨_, SqL.of hy24⟩, fun D5 hD5 => ?_⟩
  refine lc_mapL (R := fun i y _ => ∃ d, dr[i]? = some d ∧ y = .int (cnt g (d.1 - d0.1))) (xs := ys2) (fun _ _ _ _ _ z => z) hy24 hD5 (line400 (by omega)) (fun i x H2 hi t2 k hk => ?_) (fun H5 ys5 t5 hy5 hn5 hr5 => ?_)
  · obtain ⟨r, hr0, fr_⟩ := fx23.at_ i x hi
    rw [List.getElem?_map] at hr0
    obtain ⟨d, hd, rfl⟩ := Option.map_eq_some_iff.mp hr0
    have sx := Same.trans' s34 t2
    have hpm2 := t2 _ _ hpm
    have br := (sd.sz _ (List.mem_map.mpr ⟨d, List.mem_of_getElem? hd, rfl⟩)).1
    refine ⟨rfl, _, rfl, _, _, _, _, rfl, rfl, sq2 hpm2, at_0, rfl, _, rfl, ifEq (fun e => ?_) (fun e => ?_)⟩
    · exact hk _ _ Same.rfl' ⟨d, hd, by unfold cnt; rw [if_pos e]⟩
    · have g0 : g ≠ 0 := fun z => e (by rw [z]; rfl)
      refine ⟨_, rfl, _, rfl, _, _, rfl, d.1 - d0.1, g, fr_.mono sx, ⟨pm, rfl, hpm2⟩, br.mono (by decide), bg.mono (by decide), g0, fun q hq => ⟨q, _, _, _, rfl, rfl, sq2 upd_same, at_0, hk _ _ (same_new hq) ⟨d, hd, ?_⟩⟩⟩
      unfold cnt
      rw [if_neg e]
  have s5 := Same.trans' s4 t5
  have y5l : ys5.length = dr.length := by rw [hn5, hn2]; omega
  have ey5 := ints_mapA (f := fun d : Rw => cnt g (d.1 - d0.1)) y5l hr5
  rw [ey5] at hy5
  have em : (dr.map fun d => d.1 - d0.1) = (diffs d0 dr).map (·.1) := by unfold diffs; rw [List.map_map]; rfl
  have es : (dr.map fun d => d.2 - d0.2) = (diffs d0 dr).map (·.2) := by unfold diffs; rw [List.map_map]; rfl
  have M' := M
  rw [em] at M'
  have wl := M.len
  rw [List.length_map] at wl
  -- ahead
  refine ⟨_, rfl, _, rfl, _, _, rfl, pw, D3, ws, ys3, _, rfl, rfl, t5 _ _ hpw, t5 _ _ hy34, (fx3.mono s34).mono t5, by simp [wl], by simp; omega, bw, fun r hr => ?_, fun pa H6 s56 hpa bA => ?_⟩
  · obtain ⟨d, hd, rfl⟩ := List.mem_map.mp hr
    exact (sd.sz _ (List.mem_map.mpr ⟨d, hd, rfl⟩)).2
  have s6 := Same.trans' s5 s56
  have hy5' := s56 _ _ hy5
  have hpm6 := s56 _ _ (t5 _ _ hpm)
  have hpw6 := s56 _ _ (t5 _ _ hpw)
  have hy36 := s56 _ _ (t5 _ _ hy34)
  have fx36 := ((fx3.mono s34).mono t5).mono s56
  generalize hA : wsum ws (dr.map fun d => d.2 - d0.2) = A at *
  rw [es] at hA
  -- the loop
  refine ⟨_, rfl, D3, ys3, rfl, SqL.of hy36, ?_⟩
  refine for_it (walk_enum (K := K) (a := D3) (xs := ys3)) (fun i σ H' => ∃ o10 o11 o12, σ = [some (.ref l), some (.ref c0), some (.ref D2), none, some (.ref D3), some (.ref pm), some (.ref pw), some (.ref D5), none, some (.ref pa), o10, o11, o12, none, none] ∧ Same H6 H' ∧
    ∀ j, j < i → ∀ d, dr[j]? = some d → Whole ((d.2 - d0.2) - (cnt g (d.1 - d0.1) : Rat) * A)) ?_ ?_ ?_ ?_
  · exact ⟨_, _, _, rfl, Same.rfl', fun j hj => absurd hj (Nat.not_lt_zero _)⟩
  · rintro i σ H' _ ⟨_, _, _, _, sx, _⟩
    exact SqL.of (sx _ _ hy36)
  · rintro i v σ H' _ hi ⟨o10, o11, o12, rfl, sx, hw⟩ ⟨T, _, y, rfl, hT, rfl, hxi, hyi⟩
    cases hxi
    obtain ⟨r, hr0, fr_⟩ := fx36.at_ i y hyi
    rw [List.getElem?_map] at hr0
    obtain ⟨d, hd, rfl⟩ := Option.map_eq_some_iff.mp hr0
    have bsz := sd.sz _ (List.mem_map.mpr ⟨d, List.mem_of_getElem? hd, rfl⟩)
    have bc := cnt_lt bg bsz.1
    have eci : ((dr.map fun d : Rw => cnt g (d.1 - d0.1)).map V.int)[i]? = some (.int (cnt g (d.1 - d0.1))) := by rw [List.getElem?_map, List.getElem?_map, hd]; rfl
    have t1 := Same.new (o := .tup [.int (i : Nat), y]) sx hT
    refine ⟨T, _, rfl, sq2i, rfl, _, _, rfl, _, _, rfl, rfl, ?_⟩
    refine ⟨_, rfl, _, rfl, _, rfl, D5, _, _, _, rfl, rfl, SqL.of (t1 _ _ hy5'), atI_nat eci, line2, fun r1 hr1 => ?_⟩
    have t2 := Same.new (o := frO (cnt g (d.1 - d0.1) : Rat)) t1 hr1
    refine ⟨_, rfl, _, _, rfl, (cnt g (d.1 - d0.1) : Rat), A, ⟨r1, rfl, upd_same⟩, ⟨pa, rfl, t2 _ _ hpa⟩, (Sz.int bc (by decide)).mono (by decide), bA.mono (by decide), trivial, fun r2 hr2 => ?_⟩
    have t3 := Same.new (o := frO ((cnt g (d.1 - d0.1) : Rat) * A)) t2 hr2
    have bm := (Sz.int bc (by decide)).mul bA
    refine ⟨_, _, rfl, d.2 - d0.2, (cnt g (d.1 - d0.1) : Rat) * A, fr_.mono t3, ⟨r2, rfl, upd_same⟩, bsz.2.mono (by decide), bm.mono (by decide), trivial, fun r3 hr3 => ?_⟩
    have t4 := Same.new (o := frO ((d.2 - d0.2) - (cnt g (d.1 - d0.1) : Rat) * A)) t3 hr3
    refine ⟨_, rfl, r3, _, _, _, rfl, rfl, sq2 upd_same, at_1, rfl, _, rfl, ifNe (fun ne => ?_) (fun e => ?_)⟩
    · have hlen : i < dr.length := (List.getElem?_eq_some_iff.mp hd).1
      refine ⟨_, rfl, _, rfl, _, rfl, _, _, _, rfl, i, pw, D5, ws, dr.map (fun d : Rw => cnt g (d.1 - d0.1)), rfl, rfl, rfl, t4 _ _ hpw6, t4 _ _ hy5', by omega, by simp; omega, by omega, bw, fun u hu => ?_, fun q H7 s7 => ⟨line2, fun t ht => ?_⟩⟩
      · obtain ⟨d', hd', rfl⟩ := List.mem_map.mp hu
        exact cnt_lt bg (sd.sz _ (List.mem_map.mpr ⟨d', hd', rfl⟩)).1
      · have hmem : (d.1 - d0.1, d.2 - d0.2) ∈ diffs d0 dr := List.mem_map.mpr ⟨d, List.mem_of_getElem? hd, rfl⟩
        exact h none t _ (Same.new (Same.trans' (Same.trans' s6 t4) s7) ht) (meas_never M' hmem (fun z => ne (den_one.mpr (by rw [hA] at z; exact z)))) ⟨_, upd_same⟩
    · refine ⟨_, _, _, rfl, t4, fun j hj d' hd' => ?_⟩
      rcases Nat.lt_or_eq_of_le (Nat.le_of_lt_succ hj) with z | z
      · exact hw j z d' hd'
      · subst z
        rw [hd] at hd'
        cases hd'
        exact den_one.mp e
  · rintro σ H' ⟨o10, o11, o12, rfl, sx, hw⟩
    have allW : ∀ d ∈ diffs d0 dr, Whole (d.2 - (cnt g d.1 : Rat) * wsum ws ((diffs d0 dr).map (·.2))) := by
      intro d hd
      obtain ⟨d', hd', rfl⟩ := List.mem_map.mp hd
      obtain ⟨j, hj, ej⟩ := List.getElem_of_mem hd'
      rw [hA]
      exact hw j (by omega) d' (by rw [← ej]; exact List.getElem?_eq_getElem hj)
    have s7 := Same.trans' s6 sx
    have hpm7 := sx _ _ hpm6
    refine ⟨_, rfl, pm, _, _, _, rfl, rfl, sq2 hpm7, at_0, rfl, _, rfl, ifEq (fun e => ?_) (fun e => ?_)⟩
    · refine ⟨line1, fun t ht => ?_⟩
      exact h (some (0, none)) t _ (Same.new s7 ht) (meas_always M' allW (Rat.num_eq_zero.mp e)) upd_same
    · have g0 : g ≠ 0 := fun z => e (by rw [z]; rfl)
      have R := meas_every M' allW g0
      rw [hA] at R
      refine ⟨line2, fun r1 hr1 => ?_⟩
      have t1 := Same.new (o := frO 1) sx hr1
      have z1 : Sz 1 (1 : Rat) := ⟨by decide, by decide⟩
      refine ⟨_, rfl, _, _, rfl, 1, g, ⟨r1, rfl, upd_same⟩, ⟨pm, rfl, t1 _ _ hpm6⟩, z1.mono (by decide), bg.mono (by decide), g0, fun r2 hr2 => ?_⟩
      have t2 := Same.new (o := frO (1 / g)) t1 hr2
      refine ⟨line2, fun r3 hr3 => ?_⟩
      have t3 := Same.new (o := frO 0) t2 hr3
      have z0 : Sz 1 (0 : Rat) := ⟨by decide, by decide⟩
      refine ⟨_, rfl, _, _, rfl, 0, A, ⟨r3, rfl, upd_same⟩, ⟨pa, rfl, t3 _ _ hpa⟩, z0.mono (by decide), bA.mono (by decide), trivial, fun r4 hr4 => ?_⟩
      have t4 := Same.new (o := frO (0 - A)) t3 hr4
      refine ⟨_, rfl, 0 - A, ⟨r4, rfl, upd_same⟩, fun r5 hr5 => ?_⟩
      have t5_ := Same.new (o := frO (fr (0 - A))) t4 hr5
      have f2 : FrV _ (.ref r2) (1 / g) := (((FrV.mono ⟨r2, rfl, upd_same⟩ (same_new (o := frO 0) hr3)).mono (same_new (o := frO (0 - A)) hr4)).mono (same_new (o := frO (fr (0 - A))) hr5))
      refine ⟨_, rfl, _, _, rfl, fr (0 - A), 1 / g, ⟨r5, rfl, upd_same⟩, f2, (z0.sub bA).fr.mono (by decide), (z1.div bg g0).mono (by decide), trivial, fun r6 hr6 => ?_⟩
      have t6 := Same.new (o := frO (fr (0 - A) * (1 / g))) t5_ hr6
      refine ⟨_, rfl, _, rfl, line1, fun r7 hr7 => ?_⟩
      have t7 := Same.new (o := .tup [.int 0]) t6 hr7
      refine ⟨_, rfl, D5, _, rfl, .inl ⟨SqL.of (t7 _ _ hy5'), fun r8 hr8 => ?_⟩⟩
      have t8 := Same.new (o := .tup ((dr.map fun d : Rw => cnt g (d.1 - d0.1)).map V.int)) t7 hr8
      have ne : (dr.map fun d : Rw => cnt g (d.1 - d0.1)).map V.int ≠ [] := by
        intro z
        have := congrArg List.length z
        simp at this
        subst this
        simp at n1
      refine ⟨r7, r8, _, _, rfl, rfl, SqT.of (same_new hr8 _ _ upd_same), SqT.of upd_same, by simp, Nat.le_trans (show _ ≤ 6 by simp; omega) (by decide), fun z => absurd z ne, fun _ r9 hr9 => ⟨line4, fun t ht => ?_⟩⟩
      have F6 : FrV _ (.ref r6) (fr (0 - A) * (1 / g)) := ((((FrV.mono ⟨r6, rfl, upd_same⟩ (same_new (o := .tup [.int 0]) hr7)).mono (same_new (o := .tup ((dr.map fun d : Rw => cnt g (d.1 - d0.1)).map V.int)) hr8)).mono (same_new (o := .tup ([V.int 0] ++ (dr.map fun d : Rw => cnt g (d.1 - d0.1)).map V.int)) hr9)).mono (same_new (o := .tup [.str "every", .ref r6, .ref r2, .ref r9]) ht))
      have F2 := ((((f2.mono (same_new (o := frO (fr (0 - A) * (1 / g))) hr6)).mono (same_new (o := .tup [.int 0]) hr7)).mono (same_new (o := .tup ((dr.map fun d : Rw => cnt g (d.1 - d0.1)).map V.int)) hr8)).mono (same_new (o := .tup ([V.int 0] ++ (dr.map fun d : Rw => cnt g (d.1 - d0.1)).map V.int)) hr9)).mono (same_new (o := .tup [.str "every", .ref r6, .ref r2, .ref r9]) ht)
      exact h _ t _ (Same.trans' s6 (Same.new (Same.new t8 hr9) ht)) R ⟨_, _, _, upd_same, F6, F2⟩
end
end Wk
set_option maxHeartbeats 4000000
namespace Wk
open PySem PySem.Spec PyProof.Rows L2
section
variable {P : Program} {w : World} {K : PySem.W.Frag} {mg : Str → Option Value} {base : Heap}
def RuleV (H : Hp) (v : V) : Rule → Prop
  | none => v = .non
  | some (f, none) => ∃ t p, v = .ref t ∧ H t = some (.tup [p, .non]) ∧ FrV H p f
  | some (f, some I) => ∃ t p q, v = .ref t ∧ H t = some (.tup [p, q]) ∧ FrV H p f ∧ FrV H q I
theorem RuleV.mono {H H' : Hp} {v : V} {R : Rule} (h : RuleV H v R) (s : Same H H') : RuleV H' v R := by
  rcases R with _ | ⟨f, _ | I⟩
  · exact h
  · obtain ⟨t, p, e, a, b⟩ := h; exact ⟨t, p, e, s _ _ a, b.mono s⟩
  · obtain ⟨t, p, q, e, a, b, c⟩ := h; exact ⟨t, p, q, e, s _ _ a, b.mono s, c.mono s⟩
def spRule (K : PySem.W.Frag) : Sp := sp1 fun a H Q _ => ∃ l xs d0 dr, a = .ref l ∧ H l = some (.lst xs) ∧ CycX K H xs (d0 :: dr) ∧ SmallD d0 dr ∧ ∀ R v H', Same H H' → RuleFor (Md (diffs d0 dr)) R → RuleV H' v R → Q v H'
theorem sqT1 {K : PySem.W.Frag} {H : Hp} {t : Addr} {xs : List V} (h : H t = some (.tup xs)) : SqT K H t xs := SqT.of h
theorem at_2 {α : Type} {a b c : α} {l : List α} : atI (a :: b :: c :: l) (2 : Int) = some c := atI_nat (j := 2) rfl
abbrev N_meeting_rule : List Str := ["cycles", "paper"]
theorem sc_meeting_rule : FnScope N_meeting_rule ["cycles"] (defScope S_meeting_rule) := ⟨rfl, rfl, rfl, by decide +kernel, rfl, by decide +kernel, by decide +kernel⟩
theorem ok_meeting_rule (T : Tx K mg) (d_meeting_paper : Ok P w K mg base 6 "meeting_paper" ["cycles"] (spPaper K))  : Ok P w K mg base 7 "meeting_rule" ["cycles"] (spRule K) := by
  obtain ⟨fd, F⟩ := T.f_meeting_rule
  have sc := sc_meeting_rule
  refine okFN (F := F) T.g_meeting_rule F.kp (F.bindsN fun _ _ _ _ _ _ us hl => match us, hl with | [_], _ => rfl) sc sp1_len (fun cdv A outer s H vs Q E hr h => ?_)
  obtain ⟨u, rfl, h⟩ := h
  refine ⟨_, (pss_cons (ps_set (i := 1) sc.nd rfl (Or.inl rfl) (pe_f d_meeting_paper (hr.mono (by decide)) rfl passL (pa_cons (pv 0) pa_nil)))
      (pss_cons (ps_if (pt_cmpR op_eq (pe_ix ix_tup (pv 1) pe_int (fun _ _ => rfl)) pe_str (nomark _)) (pss_one (ps_ret pe_non)) pss_nil)
      (pss_cons (ps_if (pt_cmpR op_eq (pe_ix ix_tup (pv 1) pe_int (fun _ _ => rfl)) pe_str (nomark _)) (pss_one (ps_ret (pe_tup (pa_cons (pe_tup (pa_cons pe_int (pa_cons pe_int pa_nil))) (pa_cons pe_non pa_nil))))) pss_nil)
      (pss_one (ps_ret (pe_tup (pa_cons (pe_ix ix_tup (pv 1) pe_int (fun _ _ => rfl)) (pa_cons (pe_ix ix_tup (pv 1) pe_int (fun _ _ => rfl)) pa_nil)))))))), ?_⟩
  obtain ⟨l, xs, d0, dr, rfl, hl, hx, sd, h⟩ := h
  refine ⟨_, rfl, _, rfl, l, xs, d0, dr, rfl, hl, hx, sd, fun R t H1 s1 hR hp => ?_⟩
  rcases R with _ | ⟨f, _ | I⟩
  · obtain ⟨x, ht⟩ := hp
    exact ⟨_, rfl, t, _, _, _, rfl, rfl, sqT1 ht, at_0, rfl, _, rfl, ifStr (fun _ => h none .non H1 s1 hR rfl) (fun n => absurd rfl n)⟩
  · have ht : H1 t = some (.tup [.str "always"]) := hp
    refine ⟨_, rfl, t, _, _, _, rfl, rfl, sqT1 ht, at_0, rfl, _, rfl, ifStr (fun e => absurd e (by decide)) (fun _ => ?_)⟩
    refine ⟨_, rfl, t, _, _, _, rfl, rfl, sqT1 ht, at_0, rfl, _, rfl, ifStr (fun _ => ?_) (fun n => absurd rfl n)⟩
    refine ⟨line2, fun p hp2 => ⟨line2, fun q hq => ?_⟩⟩
    have f0 : f = 0 := hR.1
    subst f0
    exact h _ (.ref q) _ (Same.new (Same.new s1 hp2) hq) hR ⟨q, _, rfl, upd_same, FrV.mono ⟨p, rfl, upd_same⟩ (same_new (o := .tup [.ref p, .non]) hq)⟩
  · obtain ⟨p, q, x, ht, fp, fq⟩ := hp
    refine ⟨_, rfl, t, _, _, _, rfl, rfl, sqT1 ht, at_0, rfl, _, rfl, ifStr (fun e => absurd e (by decide)) (fun _ => ?_)⟩
    refine ⟨_, rfl, t, _, _, _, rfl, rfl, sqT1 ht, at_0, rfl, _, rfl, ifStr (fun e => absurd e (by decide)) (fun _ => ?_)⟩
    refine ⟨_, rfl, t, _, _, _, rfl, rfl, sqT1 ht, at_1, _, rfl, t, _, _, _, rfl, rfl, sqT1 ht, at_2, line2, fun r hr => ?_⟩
    exact h _ (.ref r) _ (Same.new s1 hr) hR ⟨r, _, _, rfl, upd_same, fp.mono (same_new (o := .tup [p, q]) hr), fq.mono (same_new (o := .tup [p, q]) hr)⟩
/-- a rule's parts are small -/
def RSz (n : Nat) : Rule → Prop
  | some (f, some I) => Sz n f ∧ Sz n I
  | _ => True
def spMeet (K : PySem.W.Frag) : Sp := sp2 fun c s H Q E => ∃ l xs d0 dr R a b, c = .ref l ∧ H l = some (.lst xs) ∧ CycX K H xs (d0 :: dr) ∧ SmallD d0 dr ∧ RuleFor (Md (diffs d0 dr)) R ∧ RSz 600 R ∧ SpanV K H s a b ∧ Sz 600 a ∧ Sz 600 b ∧ GvRes K H Q E (dueRes R a b)
abbrev N_meetings : List Str := ["cycles", "span", "rule"]
theorem sc_meetings : FnScope N_meetings ["cycles", "span"] (defScope S_meetings) := ⟨rfl, rfl, rfl, by decide +kernel, rfl, by decide +kernel, by decide +kernel⟩
theorem ok_meetings (T : Tx K mg) (d_steps_within : Ok P w K mg base 6 "steps_within" ["first", "interval", "span"] (spSteps K)) (d_meeting_rule : Ok P w K mg base 7 "meeting_rule" ["cycles"] (spRule K)) (d_need_span : Ok P w K mg base 1 "need_span" ["value", "what"] (spNeedSp K)) (d_need_cycles : Ok P w K mg base 1 "need_cycles" ["cycles"] (spNeedCy K))  : Ok P w K mg base 8 "meetings" ["cycles", "span"] (spMeet K) := by
  obtain ⟨fd, F⟩ := T.f_meetings
  have sc := sc_meetings
  refine okFX (F := F) T.g_meetings F.kp (F.bindsN fun _ _ _ _ _ _ us hl => match us, hl with | [_, _], _ => rfl) sc sp2_len (fun cdv A outer s H vs Q E hr h => ?_)
  obtain ⟨u, v, rfl, h⟩ := h
  refine ⟨_, (pss_cons (ps_expr (pe_f d_need_cycles (hr.mono (by decide)) rfl (passes_call (takes_of rfl rfl rfl rfl) fun _ _ _ _ z => z) (pa_cons (pv 0) pa_nil)))
      (pss_cons (ps_expr (pe_f d_need_span (hr.mono (by decide)) rfl (passes_call (takes_of rfl rfl rfl rfl) fun _ _ _ _ z => z) (pa_cons (pv 1) (pa_cons pe_str pa_nil))))
      (pss_cons (ps_set (i := 2) sc.nd rfl (Or.inl rfl) (pe_f d_meeting_rule (hr.mono (by decide)) rfl (passes_call (takes_of rfl rfl rfl rfl) fun _ _ _ _ z => z) (pa_cons (pv 0) pa_nil)))
      (pss_cons (ps_if (pt_cmpR op_isN (pv 2) pe_non (nomark _)) (pss_one (ps_ret (pe_lst pa_nil))) pss_nil)
      (pss_cons (ps_if (pt_cmpR op_isN (pe_ix ix_tup (pv 2) pe_int (fun _ _ => rfl)) pe_non (nomark _)) (pss_one (ps_raise rfl (takes_of rfl rfl rfl rfl) (pmk_own0 PySem.F.excBase_ValueError T.e_Endless.1 T.g_Endless T.e_Endless.2.1 (raises_own T.e_Endless.2.2.1 T.e_Endless.2.2.2) (by exact rfl)))) pss_nil)
      (pss_one (ps_ret (pe_f d_steps_within (hr.mono (by decide)) rfl (passes_call (takes_of rfl rfl rfl rfl) fun _ _ _ _ z => z) (pa_cons (pe_ix ix_tup (pv 2) pe_int (fun _ _ => rfl)) (pa_cons (pe_ix ix_tup (pv 2) pe_int (fun _ _ => rfl)) (pa_cons (pv 1) pa_nil))))))))))), ?_⟩
  obtain ⟨l, xs, d0, dr, R, a, b, rfl, hl, hx, sd, hR, bR, hsp, ba, bb, h⟩ := h
  have n1 := sd.n1
  have n5 := sd.n5
  have xl := hx.len
  simp only [List.length_cons] at xl
  refine ⟨_, rfl, _, rfl, l, xs, _, rfl, hl, hx, by omega, by omega, fun H1 s1 => ?_⟩
  refine ⟨_, rfl, _, _, rfl, a, b, hsp.mono s1, ?_⟩
  refine ⟨_, rfl, _, rfl, l, xs, d0, dr, rfl, s1 _ _ hl, hx.mono s1, sd, fun R' rv H2 s12 hR' hrv => ?_⟩
  have e := rule_unique (fun _ => Iff.rfl) hR' hR
  subst e
  have s2 := Same.trans' s1 s12
  rcases R' with _ | ⟨f, _ | I⟩
  · have : rv = .non := hrv
    subst this
    refine ⟨_, rfl, rfl, _, rfl, ifD (fun _ => ⟨by decide, fun p hp => ?_⟩) (fun n => absurd rfl n)⟩
    exact h p [] _ (Same.new s2 hp) upd_same ⟨rfl, fun i x e => by cases e⟩
  · obtain ⟨t, p, rfl, ht, fp⟩ := hrv
    refine ⟨_, rfl, rfl, _, rfl, ifD (fun e => by cases e) (fun _ => ?_)⟩
    refine ⟨_, rfl, t, _, _, _, rfl, rfl, sqT1 ht, at_1, rfl, _, rfl, ifD (fun _ => ?_) (fun n => absurd rfl n)⟩
    exact h H2 s2
  · obtain ⟨t, p, q, rfl, ht, fp, fq⟩ := hrv
    refine ⟨_, rfl, rfl, _, rfl, ifD (fun e => by cases e) (fun _ => ?_)⟩
    have nn : q ≠ .non := by obtain ⟨q, rfl, _⟩ := fq; intro z; cases z
    refine ⟨_, rfl, t, _, _, _, rfl, rfl, sqT1 ht, at_1, rfl, _, rfl, ifD (fun e => absurd e nn) (fun _ => ?_)⟩
    exact ⟨_, rfl, t, _, _, _, rfl, rfl, sqT1 ht, at_0, _, rfl, t, _, _, _, rfl, rfl, sqT1 ht, at_1, _, rfl, _, _, _, rfl, f, I, a, b, fp, fq, hsp.mono s2, bR.1, bR.2, ba, bb, hR.1, GvRes.at h s2⟩
end
end Wk
set_option maxHeartbeats 1000000
namespace Wk
/-! ### rates: twelfths and the like -/
def RateN (k : Nat) (r : Rat) : Prop := ∃ n : Int, r * 27720 = (n : Rat) ∧ n.natAbs ≤ k
theorem RateN.sub {k m : Nat} {r s : Rat} (a : RateN k r) (b : RateN m s) : RateN (k + m) (r - s) := by
  obtain ⟨n, e, h⟩ := a
  obtain ⟨n', e', h'⟩ := b
  exact ⟨n - n', by push_cast; grind, by omega⟩
theorem RateN.of {b : Nat} {n : Int} {k : Nat} (hb : 0 < b) (hd : b ∣ 27720) (hn : n.natAbs ≤ k * b) : RateN (k * 27720) (Rat.divInt n b) := by
  obtain ⟨c, hc⟩ := hd
  have hbz : ((b : Int) : Rat) ≠ 0 := by
    intro e
    have := Rat.intCast_inj.mp (e.trans (Rat.intCast_zero).symm)
    omega
  refine ⟨n * c, ?_, ?_⟩
  · rw [Rat.divInt_eq_div]
    have e : (27720 : Rat) = ((b : Int) : Rat) * ((c : Int) : Rat) := by
      have : ((27720 : Nat) : Rat) = ((b * c : Nat) : Rat) := by rw [← hc]
      push_cast at this ⊢
      exact this
    rw [e]
    push_cast at hbz ⊢
    have : (n : Rat) / ((b : Nat) : Rat) * ((b : Nat) : Rat) = (n : Rat) := Rat.div_mul_cancel hbz
    grind
  · rw [Int.natAbs_mul]
    have : n.natAbs * c ≤ k * b * c := Nat.mul_le_mul_right _ hn
    have e : k * b * c = k * 27720 := by rw [Nat.mul_assoc, ← hc]
    simp
    omega
theorem RateN.sz {k : Nat} {r : Rat} (a : RateN k r) (h : k < 2 ^ 18) : Sz 18 r := by
  obtain ⟨n, e, h2⟩ := a
  exact Sz.of_dv (q := 27720) (b := 0) (by decide) n (by push_cast; exact e) (by omega) (by decide)
/-- moved by a whole number into (-1, 1): the size stays -/
theorem Sz.shift {n : Nat} {x y : Rat} (h : Sz n x) (k : Int) (e : y = x + (k : Rat)) (h1 : -1 < y) (h2 : y < 1) : Sz n y := by
  have hd := h.2
  have t := times_den x
  have q : y * ((x.den : Nat) : Rat) = ((x.num + k * (x.den : Int) : Int) : Rat) := by
    rw [e]
    push_cast
    grind
  have hp : (0 : Rat) < ((x.den : Nat) : Rat) := by
    have := x.den_pos
    exact_mod_cast this
  refine Sz.of_dv (q := x.den) (b := 0) x.den_pos _ q ?_ hd
  have a : ((x.num + k * (x.den : Int) : Int) : Rat) < ((x.den : Nat) : Rat) := by
    rw [← q]
    have : y * ((x.den : Nat) : Rat) < 1 * ((x.den : Nat) : Rat) := Rat.mul_lt_mul_of_pos_right h2 hp
    grind
  have b : -((x.den : Nat) : Rat) < ((x.num + k * (x.den : Int) : Int) : Rat) := by
    rw [← q]
    have : (-1) * ((x.den : Nat) : Rat) < y * ((x.den : Nat) : Rat) := Rat.mul_lt_mul_of_pos_right h1 hp
    grind
  have a' : x.num + k * (x.den : Int) < (x.den : Int) := by
    have : ((x.num + k * (x.den : Int) : Int) : Rat) < (((x.den : Int)) : Rat) := by push_cast at a ⊢; exact a
    exact Rat.intCast_lt_intCast.mp this
  have b' : -(x.den : Int) < x.num + k * (x.den : Int) := by
    have : ((-(x.den : Int) : Int) : Rat) < ((x.num + k * (x.den : Int) : Int) : Rat) := by push_cast at b ⊢; exact b
    exact Rat.intCast_lt_intCast.mp this
  omega
theorem Sz.abs {n : Nat} {x : Rat} (h : Sz n x) : -(((2 ^ n : Nat) : Int) : Rat) < x ∧ x < (((2 ^ n : Nat) : Int) : Rat) := by
  have hd : (1 : Int) ≤ (x.den : Int) := by have := x.den_pos; omega
  have hk : (0 : Int) ≤ ((2 ^ n : Nat) : Int) := Int.natCast_nonneg _
  have key : ((2 ^ n : Nat) : Int) ≤ ((2 ^ n : Nat) : Int) * (x.den : Int) := by
    have := Int.mul_le_mul_of_nonneg_left hd hk
    omega
  have h1 : x.num < ((2 ^ n : Nat) : Int) := by have := h.1; omega
  have h2 : -((2 ^ n : Nat) : Int) < x.num := by have := h.1; omega
  constructor
  · have := (Rat.lt_iff (((-((2 ^ n : Nat) : Int)) : Int) : Rat) x).mpr (by
      show -((2 ^ n : Nat) : Int) * (x.den : Int) < x.num * 1
      rw [Int.neg_mul]
      omega)
    rw [Rat.intCast_neg] at this
    exact this
  · exact (Rat.lt_iff x ((((2 ^ n : Nat) : Int)) : Rat)).mpr (by
      show x.num * 1 < ((2 ^ n : Nat) : Int) * (x.den : Int)
      omega)
theorem part_le {n : Int} {c : Rat} (h0 : 0 ≤ c) (h1 : c ≤ 1) : -((n.natAbs : Int) : Rat) ≤ (n : Rat) * c ∧ (n : Rat) * c ≤ ((n.natAbs : Int) : Rat) := by
  rcases Int.le_total 0 n with h | h
  · have e : (n.natAbs : Int) = n := by omega
    rw [e]
    have hn : (0 : Rat) ≤ (n : Rat) := Rat.intCast_nonneg.mpr h
    have a : (n : Rat) * c ≤ (n : Rat) * 1 := Rat.mul_le_mul_of_nonneg_left h1 hn
    have b : (0 : Rat) ≤ (n : Rat) * c := Rat.mul_nonneg hn h0
    constructor <;> grind
  · have e : (n.natAbs : Int) = -n := by omega
    rw [e]
    have hn : (0 : Rat) ≤ ((-n : Int) : Rat) := Rat.intCast_nonneg.mpr (by omega)
    rw [Rat.intCast_neg] at hn ⊢
    have a : -(n : Rat) * c ≤ -(n : Rat) * 1 := Rat.mul_le_mul_of_nonneg_left h1 hn
    have b : (0 : Rat) ≤ -(n : Rat) * c := Rat.mul_nonneg hn h0
    constructor <;> grind
theorem int_of_lt {M : Int} {k : Nat} (h1 : -((k : Int) : Rat) < (M : Rat)) (h2 : (M : Rat) < ((k : Int) : Rat)) : M.natAbs < k := by
  have a := Rat.intCast_lt_intCast.mp h2
  have b : -(k : Int) < M := Rat.intCast_lt_intCast.mp (by rw [Rat.intCast_neg]; exact h1)
  omega
theorem int_inj {a b : Int} (h : (a : Rat) = (b : Rat)) : a = b := Rat.intCast_inj.mp h
/-- the rule is small -/
theorem rule_small {ds : List Rw} {f I : Rat} (hR : RuleFor (Md ds) (some (f, some I))) (h1 : ∀ d ∈ ds, RateN 221760 d.1) (h2 : ∀ d ∈ ds, Sz 40 d.2) : Sz 100 f ∧ Sz 100 I ∧ 1 ≤ 8 * I ∧ I ≤ 27720 := by
  obtain ⟨hI, hf0, hf1, hm⟩ := hR
  have hmf : Md ds f := (hm f).mpr (every_first f I)
  have hmI : Md ds (f + I) := (hm _).mpr ⟨1, by simp⟩
  have ex : ∃ d ∈ ds, d.1 ≠ 0 := by
    refine Classical.byContradiction fun hn => ?_
    have z : ∀ d ∈ ds, d.1 = 0 := fun d hd => Classical.byContradiction fun q => hn ⟨d, hd, q⟩
    have hh : Md ds (f + I / 2) := fun d hd => by
      have := hmf d hd
      rw [z d hd] at this ⊢
      have e : d.2 + 0 * (f + I / 2) = d.2 + 0 * f := by grind
      rw [e]
      exact this
    obtain ⟨k, hk⟩ := (hm _).mp hh
    have hk2 : (k : Rat) * I = I / 2 := by grind
    have k0 := int_small hI hk2 (by grind) (by grind)
    subst k0
    have : I / 2 = 0 := by rw [← hk2]; simp
    grind
  obtain ⟨d, hd, d0⟩ := ex
  obtain ⟨n, en, hn⟩ := h1 d hd
  have hq : Md ds (f + 27720) := fun e he => by
    obtain ⟨a, ha⟩ := hmf e he
    obtain ⟨b, hb, _⟩ := h1 e he
    exact ⟨a + b, by push_cast; grind⟩
  obtain ⟨k, hk⟩ := (hm _).mp hq
  have hk2 : (k : Rat) * I = 27720 := by grind
  obtain ⟨N, hN⟩ : ∃ N : Int, d.1 * I = (N : Rat) := by
    obtain ⟨a, ha⟩ := hmf d hd
    obtain ⟨b, hb⟩ := hmI d hd
    exact ⟨b - a, by push_cast; grind⟩
  have N0 : N ≠ 0 := by
    rintro rfl
    have : d.1 * I = 0 := by rw [hN]; simp
    rcases Rat.mul_eq_zero.mp this with q | q
    · exact d0 q
    · grind
  have enk : n = N * k := by
    apply int_inj
    push_cast
    have e1 : (n : Rat) = d.1 * ((k : Rat) * I) := by rw [hk2, ← en]
    rw [e1, ← hN]
    grind
  have k0 : k ≠ 0 := by
    rintro rfl
    simp at hk2
  have kb : k.natAbs ≤ 221760 := by
    have : n.natAbs = N.natAbs * k.natAbs := by rw [enk, Int.natAbs_mul]
    have a : 1 ≤ N.natAbs := by omega
    have : 1 * k.natAbs ≤ N.natAbs * k.natAbs := Nat.mul_le_mul_right _ a
    omega
  have kp : 0 < k := by
    refine Classical.byContradiction fun q => ?_
    have : ((-k : Int) : Rat) * I = -27720 := by push_cast; grind
    have b : (0 : Rat) ≤ ((-k : Int) : Rat) := Rat.intCast_nonneg.mpr (by omega)
    have c := Rat.mul_nonneg b (Rat.le_of_lt hI)
    rw [this] at c
    exact absurd c (by decide)
  have sI : Sz 18 I := by
    refine Sz.of_dv (q := k.natAbs) (b := 0) (by omega) 27720 ?_ (by decide) (by omega)
    have : ((k.natAbs : Nat) : Rat) = (k : Rat) := by
      have e : ((k.natAbs : Nat) : Int) = k := by omega
      have := congrArg (fun z : Int => (z : Rat)) e
      exact_mod_cast this
    rw [this, Rat.mul_comm]
    exact hk2
  have I1 : I ≤ 27720 := by
    have k1 : (1 : Rat) ≤ (k : Rat) := by
      have := Rat.intCast_le_intCast.mpr (show (1 : Int) ≤ k by omega)
      exact_mod_cast this
    have : 1 * I ≤ (k : Rat) * I := Rat.mul_le_mul_of_nonneg_right k1 (Rat.le_of_lt hI)
    grind
  have I8 : 1 ≤ 8 * I := by
    have hk3 : (k : Rat) ≤ ((221760 : Int) : Rat) := Rat.intCast_le_intCast.mpr (by omega)
    have : (k : Rat) * I ≤ ((221760 : Int) : Rat) * I := Rat.mul_le_mul_of_nonneg_right hk3 (Rat.le_of_lt hI)
    rw [hk2] at this
    have e : ((221760 : Int) : Rat) = 221760 := by decide
    rw [e] at this
    grind
  refine ⟨?_, sI.mono (by decide), I8, I1⟩
  obtain ⟨M, hM⟩ := hmf d hd
  have pc := part_le (n := n) (c := f / 27720) (by grind) (by grind)
  have ec : (n : Rat) * (f / 27720) = d.1 * f := by rw [← en]; grind
  rw [ec] at pc
  have sz2 := h2 d hd
  obtain ⟨a1, a2⟩ := sz2.abs
  have hb : (n.natAbs : Int) ≤ 221760 := by omega
  have hb2 : ((n.natAbs : Int) : Rat) ≤ ((221760 : Int) : Rat) := Rat.intCast_le_intCast.mpr hb
  have Mb : M.natAbs < 2 ^ 41 := by
    have e41 : ((((2 ^ 41 : Nat)) : Int) : Rat) = 2199023255552 := by decide
    have e40 : ((((2 ^ 40 : Nat)) : Int) : Rat) = 1099511627776 := by decide
    rw [e40] at a1 a2
    refine int_of_lt ?_ ?_ <;> rw [e41, ← hM] <;> grind
  have ef : f = ((M : Rat) - d.2) / d.1 := by
    rw [← hM]
    grind
  rw [ef]
  exact ((Sz.int Mb (by decide)).sub sz2).div (RateN.sz ⟨n, en, hn⟩ (by decide)) d0
end Wk
set_option maxHeartbeats 4000000
namespace Wk
open PySem PySem.Spec PyProof.Rows L2
section
variable {P : Program} {w : World} {K : PySem.W.Frag} {mg : Str → Option Value} {base : Heap}
/-! ### the draws -/
def spMixed : Sp := sp2 fun a b H Q _ => ∃ i j : Int, a = .int i ∧ b = .int j ∧ j.natAbs < 2 ^ 40 ∧ ∀ z : Int, 0 ≤ z → z < 2 ^ 28 → Q (.int z) H
theorem mod_nb {i m : Int} {k : Nat} (hm : 0 < m) (h : m.natAbs ≤ 2 ^ k) : (i % m).natAbs < 2 ^ k := by
  have a := Int.emod_nonneg i (show m ≠ 0 by omega)
  have b := Int.emod_lt_of_pos i hm
  omega
theorem ka {i : Int} : (i % 2147483629).natAbs < 2 ^ 31 := mod_nb (by decide) (by decide)
theorem kb {i : Int} : (i % 2147483647).natAbs < 2 ^ 31 := mod_nb (by decide) (by decide)
theorem pa_ : (0 : Int) < 2147483629 := by decide
theorem pb_ : (0 : Int) < 2147483647 := by decide
theorem pc_ : (0 : Int) < 2147483587 := by decide
abbrev N__law_mixed : List Str := ["_law_number", "_law_turn", "_law_value"]
theorem sc__law_mixed : FnScope N__law_mixed ["_law_number", "_law_turn"] (defScope S__law_mixed) := ⟨rfl, rfl, rfl, by decide +kernel, rfl, by decide +kernel, by decide +kernel⟩
theorem ok__law_mixed (T : Tx K mg)   : Ok P w K mg base 1 "_law_mixed" ["_law_number", "_law_turn"] spMixed := by
  obtain ⟨fd, F⟩ := T.f__law_mixed
  have sc := sc__law_mixed
  refine okFN (F := F) T.g__law_mixed F.kp (F.bindsN fun _ _ _ _ _ _ us hl => match us, hl with | [_, _], _ => rfl) sc sp2_len (fun cdv A outer s H vs Q E hr h => ?_)
  obtain ⟨u, v, rfl, h⟩ := h
  refine ⟨_, (pss_cons (ps_set (i := 2) sc.nd rfl (Or.inl rfl) (pe_op op_mod (pe_op op_add (pe_op op_add (pe_op op_mulW (pe_op op_mod (pe_callTy call_int1 (by rfl) T.b_int (by decide +kernel) (pa_cons (pv 0) pa_nil)) pe_int) pe_int) (pe_op op_mulW (pv 1) pe_int)) pe_int) pe_int))
      (pss_cons (ps_set (i := 2) sc.nd rfl (Or.inl rfl) (pe_op op_mod (pe_op op_add (pe_op op_add (pe_op op_add (pe_op op_mulW (pv 2) (pv 2)) (pe_op op_mulW (pv 2) pe_int)) (pe_op op_mulW (pv 1) pe_int)) pe_int) pe_int))
      (pss_cons (ps_set (i := 2) sc.nd rfl (Or.inl rfl) (pe_op op_mod (pe_op op_add (pe_op op_add (pe_op op_mulW (pv 2) pe_int) (pe_op op_fdivW (pv 2) pe_int)) pe_int) pe_int))
      (pss_cons (ps_set (i := 2) sc.nd rfl (Or.inl rfl) (pe_op op_mod (pe_op op_add (pe_op op_mulW (pv 2) (pv 2)) (pv 1)) pe_int))
      (pss_one (ps_ret (pe_op op_fdivW (pv 2) pe_int))))))), ?_⟩
  obtain ⟨i, j, rfl, rfl, bj, h⟩ := h
  refine ⟨_, rfl, .inl ⟨_, rfl, _, _, rfl, rfl, pa_, _, _, rfl, rfl, cmul ka (b := 16) (by decide), _, rfl, _, _, rfl, rfl, cmul bj (b := 16) (by decide), _, _, rfl, rfl, _, _, rfl, rfl, _, _, rfl, rfl, pb_, ?_⟩⟩
  refine ⟨_, rfl, _, rfl, _, _, rfl, rfl, cmul kb kb, _, rfl, _, _, rfl, rfl, cmul kb (b := 16) (by decide), _, _, rfl, rfl, _, rfl, _, _, rfl, rfl, cmul bj (b := 17) (by decide), _, _, rfl, rfl, _, _, rfl, rfl, _, _, rfl, rfl, pa_, ?_⟩
  refine ⟨_, rfl, _, _, rfl, rfl, cmul ka (b := 16) (by decide), _, rfl, _, _, rfl, rfl, cdiv (by decide) (k := 16) (by decide), _, _, rfl, rfl, _, _, rfl, rfl, _, _, rfl, rfl, pb_, ?_⟩
  refine ⟨_, rfl, _, rfl, _, _, rfl, rfl, cmul kb kb, _, rfl, _, _, rfl, rfl, _, _, rfl, rfl, pc_, ?_⟩
  refine ⟨_, rfl, _, _, rfl, rfl, cdiv (by decide) (k := 4) (by decide), ?_⟩
  refine h _ (Int.ediv_nonneg (Int.emod_nonneg _ (by decide)) (by decide)) ?_
  refine Int.ediv_lt_of_lt_mul (by decide) (Int.lt_of_lt_of_le (Int.emod_lt_of_pos _ pc_) (by decide))
end
end Wk
set_option maxHeartbeats 4000000
namespace Wk
open PySem PySem.Spec PyProof.Rows L2
section
variable {P : Program} {w : World} {K : PySem.W.Frag} {mg : Str → Option Value} {base : Heap}
/-! ### the store -/
structure StoreOk (H : Hp) (st : Addr) (c : Nat) : Prop where
  ex : ∃ (cl : Addr) (ns : List Int) (pos big cnt seed left num : Int), H st = some (.lst [.ref cl, .int pos, .int big, .int cnt, .int seed, .int left, .int num]) ∧ H cl = some (.lst (ns.map V.int)) ∧ cl ≠ st ∧ 0 ≤ pos ∧ 0 ≤ cnt ∧ cnt ≤ (c : Int)
theorem StoreOk.le {H : Hp} {st : Addr} {c d : Nat} (h : StoreOk H st c) (l : c ≤ d) : StoreOk H st d := by
  obtain ⟨cl, ns, p, b, n, s, f, m, h1, h2, h3, h4, h5, h6⟩ := h.ex
  exact ⟨cl, ns, p, b, n, s, f, m, h1, h2, h3, h4, h5, by omega⟩
/-- all but the store is kept; the store's cells stay where they are -/
structure SameS (st : Addr) (H H' : Hp) : Prop where
  keep : ∀ b o, b ≠ st → H b = some o → H' b = some o
  hd : ∀ cl r, H st = some (.lst (.ref cl :: r)) → ∃ r', H' st = some (.lst (.ref cl :: r'))
theorem SameS.of {st : Addr} {H H' : Hp} (s : Same H H') : SameS st H H' := ⟨fun b o _ e => s b o e, fun cl r e => ⟨r, s _ _ e⟩⟩
theorem SameS.trans {st : Addr} {H H1 H2 : Hp} (a : SameS st H H1) (b : SameS st H1 H2) : SameS st H H2 := ⟨fun c o n e => b.keep c o n (a.keep c o n e), fun cl r e => let ⟨r', e'⟩ := a.hd cl r e; b.hd cl r' e'⟩
theorem SameS.rfl' {st : Addr} {H : Hp} : SameS st H H := ⟨fun _ _ _ e => e, fun _ r e => ⟨r, e⟩⟩
theorem SameS.l {st : Addr} {H H' : Hp} {c : Nat} (s : SameS st H H') (h : StoreOk H st c) : SameL H H' := fun b o e n => by
  obtain ⟨cl, ns, p, b', n', s', f, m, h1, _⟩ := h.ex
  refine s.keep b o (fun z => ?_) e
  rw [z, h1] at e
  exact n _ (Option.some.inj e).symm
/-- l is not the store's list of cells -/
def NotCl (H : Hp) (st l : Addr) : Prop := ∀ cl r, H st = some (.lst (.ref cl :: r)) → l ≠ cl
theorem NotCl.s {st l : Addr} {H H' : Hp} {c : Nat} (n : NotCl H st l) (h : StoreOk H st c) (s : SameS st H H') : NotCl H' st l := by
  obtain ⟨cl, ns, p, b', n', s', f, m, h1, _⟩ := h.ex
  intro cl' r' e'
  obtain ⟨r2, e2⟩ := s.hd _ _ h1
  rw [e2] at e'
  injection e' with e'
  injection e' with e'
  injection e' with e' _
  injection e' with e'
  subst e'
  exact n _ _ h1
theorem NotCl.of {st l : Addr} {H : Hp} {c : Nat} (h : StoreOk H st c) (hl : H l = none) : NotCl H st l := by
  obtain ⟨cl, ns, p, b', n', s', f, m, h1, h2, _⟩ := h.ex
  intro cl' r' e'
  rw [h1] at e'
  injection e' with e'
  injection e' with e'
  injection e' with e' _
  injection e' with e'
  subst e'
  rintro rfl
  rw [h2] at hl; cases hl
theorem SameS.own {st l : Addr} {H0 H : Hp} {o : HO} (s : SameS st H0 H) (h0 : H0 l = none) (n : l ≠ st) : SameS st H0 (upd H l o) := ⟨fun b u nb e => by
  rw [upd_ne (ne_of_none e h0)]; exact s.keep b u nb e, fun cl r e => by
  obtain ⟨r', e'⟩ := s.hd cl r e
  exact ⟨r', by rw [upd_ne (Ne.symm n)]; exact e'⟩⟩
theorem SameS.at_none {st : Addr} {H H' : Hp} {b : Addr} (s : SameS st H H') (n : b ≠ st) (h : H' b = none) : H b = none := by
  cases e : H b with
  | none => rfl
  | some o =>
    have := s.keep b o n e
    rw [h] at this; cases this
theorem StoreOk.same {H H' : Hp} {st : Addr} {c : Nat} (h : StoreOk H st c) (s : Same H H') : StoreOk H' st c := by
  obtain ⟨cl, ns, p, b, n, s', f, m, h1, h2, r⟩ := h.ex
  exact ⟨cl, ns, p, b, n, s', f, m, s _ _ h1, s _ _ h2, r⟩
theorem StoreOk.ne {H : Hp} {st : Addr} {c : Nat} (h : StoreOk H st c) {b : Addr} (e : H b = none) : b ≠ st := by
  rintro rfl
  obtain ⟨cl, ns, p, b, n, s', f, m, h1, _⟩ := h.ex
  rw [h1] at e; cases e
/-- an own list that is changed in the meantime -/
theorem StoreOk.own {H : Hp} {st l : Addr} {c : Nat} {o : HO} (h : StoreOk H st c) (hl : l ≠ st) (hn : NotCl H st l) : StoreOk (upd H l o) st c := by
  obtain ⟨cl, ns, p, b, n, s', f, m, h1, h2, r⟩ := h.ex
  refine ⟨cl, ns, p, b, n, s', f, m, ?_, ?_, r⟩
  · rw [upd_ne (Ne.symm hl)]; exact h1
  · rw [upd_ne (Ne.symm (hn _ _ h1))]; exact h2
theorem NotCl.upd {H : Hp} {st l l2 : Addr} {o : HO} (h : NotCl H st l) (n : l2 ≠ st) : NotCl (upd H l2 o) st l := fun cl r e => by
  rw [upd_ne (Ne.symm n)] at e; exact h cl r e
def spStore (K : PySem.W.Frag) : Sp := sp1 fun a H Q _ => ∃ l ns, a = .ref l ∧ SqL K H l (List.map V.int ns) ∧ ns.length ≤ 1000 ∧ ∀ st H', Same H H' → StoreOk H' st 0 → Q (.ref st) H'
theorem same_sqL {K : PySem.W.Frag} {H H' : Hp} {l : Addr} {xs : List V} (h : SqL K H l xs) (s : Same H H') : SqL K H' l xs := SqL.ext h s
theorem line7 : (7 : Nat) ≤ sizeLine := by decide
abbrev N__law_store : List Str := ["_law_script", "_law_seed", "_law_cell"]
theorem sc__law_store : FnScope N__law_store ["_law_script"] (defScope S__law_store) := ⟨rfl, rfl, rfl, by decide +kernel, rfl, by decide +kernel, by decide +kernel⟩
theorem ok__law_store (T : Tx K mg)   : Ok P w K mg base 1 "_law_store" ["_law_script"] (spStore K) := by
  obtain ⟨fd, F⟩ := T.f__law_store
  have sc := sc__law_store
  refine okFN (F := F) T.g__law_store F.kp (F.bindsN fun _ _ _ _ _ _ us hl => match us, hl with | [_], _ => rfl) sc sp1_len (fun cdv A outer s H vs Q E hr h => ?_)
  obtain ⟨u, rfl, h⟩ := h
  refine ⟨_, (pss_cons (ps_set (i := 1) sc.nd rfl (Or.inl rfl) (pe_op op_add (pe_callB call_len (by rfl) T.b_len PySem.boot_len (pa_cons (pv 0) pa_nil)) pe_int))
      (pss_cons (ps_for PassesOwn.never rfl (pi_list (pv 0)) (pg_name (i := 2) sc.nd rfl (Or.inl rfl)) (pss_one (ps_set (i := 1) sc.nd rfl (Or.inl rfl) (pe_op op_mod (pe_op op_add (pe_op op_add (pe_op op_mulW (pv 1) pe_int) (pe_op op_mod (pe_callTy call_int1 (by rfl) T.b_int (by decide +kernel) (pa_cons (pv 2) pa_nil)) pe_int)) pe_int) pe_int))))
      (pss_one (ps_ret (pe_lst (pa_cons (pe_callTy call_list_of (by rfl) T.b_list (by decide +kernel) (pa_cons (pv 0) pa_nil)) (pa_cons pe_int (pa_cons pe_int (pa_cons pe_int (pa_cons (pv 1) (pa_cons pe_int (pa_cons pe_int pa_nil)))))))))))), ?_⟩
  obtain ⟨l, ns, rfl, hl, hn, h⟩ := h
  refine ⟨_, rfl, .ref l, _, rfl, .inl ⟨_, hl, rfl⟩, _, _, rfl, rfl, ?_⟩
  refine ⟨_, rfl, l, rfl, ⟨_, hl⟩, ?_⟩
  refine for_list (xs := ns.map V.int) (fun i σ H' => ∃ (z : Int) (o2 : Option V), σ = [some (.ref l), some (.int z), o2] ∧ H' = H ∧ z.natAbs < 2 ^ 70) ?_ ?_ ?_ ?_
  · refine ⟨_, _, rfl, rfl, ?_⟩
    simp only [List.length_map]
    omega
  · rintro i σ H' _ ⟨z, o2, rfl, rfl, _⟩
    exact hl
  · rintro i x σ H' hi ⟨z, o2, rfl, rfl, bz⟩
    obtain ⟨n, _, rfl⟩ := map_get hi
    refine ⟨_, rfl, _, _, rfl, rfl, cmul bz (b := 16) (by decide), _, rfl, .inl ⟨_, rfl, _, _, rfl, rfl, pa_, _, _, rfl, rfl, _, _, rfl, rfl, _, _, rfl, rfl, pb_, ?_⟩⟩
    exact ⟨_, _, rfl, rfl, Nat.lt_trans kb (by decide)⟩
  · rintro σ H' ⟨z, o2, rfl, rfl, _⟩
    refine ⟨_, rfl, l, _, rfl, .inl hl, fun cl hcl => ⟨_, rfl, line7, fun st hst => ?_⟩⟩
    refine h st _ (Same.new (same_new hcl) hst) ⟨cl, ns, 0, 0, 0, z, 0, 0, upd_same, ?_, ?_, by decide, by decide, by decide⟩
    · exact same_new hst _ _ upd_same
    · rintro rfl
      rw [upd_same] at hst; cases hst
/-- a statement cut off from what follows it -/
theorem seq_intro {t u : TS} {D : Ends} {σ : L2.St} {H : Hp} (J : L2.St → Hp → Prop) (h : ∀ R : L2.St → Hp → Prop, (∀ σ' H', J σ' H' → R σ' H') → t { D with nx := R } σ H) (hr : ∀ σ' H', J σ' H' → u D σ' H') : tSeq t u D σ H := h (u D) hr
abbrev StH (H : Hp) (st cl : Addr) (ns : List Int) (pos big cnt seed left num : Int) : Prop := H st = some (.lst [.ref cl, .int pos, .int big, .int cnt, .int seed, .int left, .int num]) ∧ H cl = some (.lst (ns.map V.int)) ∧ cl ≠ st
def spTake : Sp := sp2 fun s m H Q _ => ∃ (st : Addr) (c : Nat) (k : Int), s = .ref st ∧ m = .int k ∧ StoreOk H st c ∧ c ≤ 100000 ∧ k.natAbs < 2 ^ 40 ∧
  ∀ z H', SameS st H H' → StoreOk H' st (c + 1) → 0 ≤ z → (z < k ∨ (k < 2 ∧ z = 0)) → Q (.int z) H'
theorem ga3 {α : Type} {a b c d : α} {l : List α} : atI (a :: b :: c :: d :: l) (3 : Int) = some d := atI_nat (j := 3) rfl
theorem ga4 {α : Type} {a b c d e : α} {l : List α} : atI (a :: b :: c :: d :: e :: l) (4 : Int) = some e := atI_nat (j := 4) rfl
theorem ga5 {α : Type} {a b c d e f : α} {l : List α} : atI (a :: b :: c :: d :: e :: f :: l) (5 : Int) = some f := atI_nat (j := 5) rfl
theorem ga6 {α : Type} {a b c d e f g : α} {l : List α} : atI (a :: b :: c :: d :: e :: f :: g :: l) (6 : Int) = some g := atI_nat (j := 6) rfl
theorem StH.up {H : Hp} {st cl : Addr} {ns : List Int} {p b c s l n p' b' c' s' l' n' : Int} (h : StH H st cl ns p b c s l n) : StH (upd H st (.lst [.ref cl, .int p', .int b', .int c', .int s', .int l', .int n'])) st cl ns p' b' c' s' l' n' :=
  ⟨upd_same, by rw [upd_ne h.2.2]; exact h.2.1, h.2.2⟩
theorem StH.sm {H : Hp} {st cl : Addr} {ns : List Int} {p b c s l n p' b' c' s' l' n' : Int} (h : StH H st cl ns p b c s l n) : SameS st H (upd H st (.lst [.ref cl, .int p', .int b', .int c', .int s', .int l', .int n'])) :=
  ⟨fun b u nb e => by rw [upd_ne nb]; exact e, fun cl' r e => by
    rw [h.1] at e
    injection e with e
    injection e with e
    injection e with e _
    injection e with e
    subst e
    exact ⟨_, upd_same⟩⟩
theorem bits40 {k : Int} (h : k.natAbs < 2 ^ 40) : ((Builtin.Int.intBits k : Nat) : Int) ≤ 40 := by
  unfold Builtin.Int.intBits
  split
  · decide
  · have := PySem.Flt.log2_lt_of (show 0 < 40 by decide) h
    omega
theorem cpow18 : CPow 10 18 := ⟨by decide, by decide, by decide⟩
abbrev N__law_take : List Str := ["_law_store_here", "_law_many_here", "_law_cell", "_law_digit", "_law_number", "_law_value", "_law_k"]
theorem sc__law_take : FnScope N__law_take ["_law_store_here", "_law_many_here"] (defScope S__law_take) := ⟨rfl, rfl, rfl, by decide +kernel, rfl, by decide +kernel, by decide +kernel⟩
theorem ok__law_take (T : Tx K mg) (d__law_mixed : Ok P w K mg base 1 "_law_mixed" ["_law_number", "_law_turn"] spMixed)  : Ok P w K mg base 2 "_law_take" ["_law_store_here", "_law_many_here"] spTake := by
  obtain ⟨fd, F⟩ := T.f__law_take
  have sc := sc__law_take
  refine okFN (F := F) T.g__law_take F.kp (F.bindsN fun _ _ _ _ _ _ us hl => match us, hl with | [_, _], _ => rfl) sc sp2_len (fun cdv A outer s H vs Q E hr h => ?_)
  obtain ⟨u, v, rfl, h⟩ := h
  refine ⟨_, (pss_cons (ps_if (pt_cmpR op_lt (pv 1) pe_int (nomark _)) (pss_one (ps_ret pe_int)) pss_nil)
      (pss_cons (ps_asg (pe_op op_add (pe_ix ix_list (pv 0) pe_int (fun _ _ => rfl)) pe_int) (pg_sub (pv 0) pe_int set_list))
      (pss_cons (ps_if (PW.pt (pw_and (pt_cmpR op_lt (pe_ix ix_list (pv 0) pe_int (fun _ _ => rfl)) pe_int (nomark _)) (pw_and (pt_cmpR op_lt (pe_ix ix_list (pv 0) pe_int (fun _ _ => rfl)) pe_int (nomark _)) (pw_and1 (pt_cmpR op_lt (pe_ix ix_list (pv 0) pe_int (fun _ _ => rfl)) (pe_callB call_len (by rfl) T.b_len PySem.boot_len (pa_cons (pe_ix ix_list (pv 0) pe_int (fun _ _ => rfl)) pa_nil)) (nomark _)))))) (pss_cons (ps_set (i := 2) sc.nd rfl (Or.inl rfl) (pe_callTy call_int1 (by rfl) T.b_int (by decide +kernel) (pa_cons (pe_ix ix_list (pe_ix ix_list (pv 0) pe_int (fun _ _ => rfl)) (pe_ix ix_list (pv 0) pe_int (fun _ _ => rfl)) (fun _ _ => rfl)) pa_nil)))
      (pss_cons (ps_asg (pe_op op_add (pe_ix ix_list (pv 0) pe_int (fun _ _ => rfl)) pe_int) (pg_sub (pv 0) pe_int set_list))
      (pss_one (ps_if (pt_cmpR op_lt (pe_callB call_abs (by rfl) T.b_abs (by decide +kernel) (pa_cons (pv 2) pa_nil)) (pe_op op_pow pe_int pe_int) (nomark _)) (pss_cons (ps_asg pe_int (pg_sub (pv 0) pe_int set_list))
      (pss_one (ps_asg (pv 2) (pg_sub (pv 0) pe_int set_list)))) (pss_one (ps_asg (pe_callB call_abs (by rfl) T.b_abs (by decide +kernel) (pa_cons (pv 2) pa_nil)) (pg_sub (pv 0) pe_int set_list))))))) pss_nil)
      (pss_cons (ps_if (pt_cmpR op_gt (pe_ix ix_list (pv 0) pe_int (fun _ _ => rfl)) pe_int (nomark _)) (pss_cons (ps_set (i := 3) sc.nd rfl (Or.inl rfl) (pe_op op_mod (pe_callTy call_int1 (by rfl) T.b_int (by decide +kernel) (pa_cons (pe_ix ix_list (pv 0) pe_int (fun _ _ => rfl)) pa_nil)) (pv 1)))
      (pss_cons (ps_asg (pe_op op_fdivW (pe_ix ix_list (pv 0) pe_int (fun _ _ => rfl)) (pv 1)) (pg_sub (pv 0) pe_int set_list))
      (pss_one (ps_ret (pv 3))))) pss_nil)
      (pss_cons (ps_set (i := 4) sc.nd rfl (Or.inl rfl) (pe_ix ix_list (pv 0) pe_int (fun _ _ => rfl)))
      (pss_cons (ps_if (pt_cmpR op_gt (pe_ix ix_list (pv 0) pe_int (fun _ _ => rfl)) pe_int (nomark _)) (pss_cons (ps_asg (pe_op op_sub (pe_ix ix_list (pv 0) pe_int (fun _ _ => rfl)) pe_int) (pg_sub (pv 0) pe_int set_list))
      (pss_one (ps_set (i := 4) sc.nd rfl (Or.inl rfl) (pe_ix ix_list (pv 0) pe_int (fun _ _ => rfl))))) pss_nil)
      (pss_cons (ps_set (i := 5) sc.nd rfl (Or.inl rfl) pe_int)
      (pss_cons (ps_for PassesOwn.never rfl (pi_range1 (by rfl) T.b_range (pa_cons (pe_op op_add pe_int (pe_op op_fdivW (pe_bits (pv 1)) pe_int)) pa_nil)) (pg_name (i := 6) sc.nd rfl (Or.inl rfl)) (pss_one (ps_set (i := 5) sc.nd rfl (Or.inl rfl) (pe_op op_add (pe_op op_mulW (pv 5) pe_int) (pe_f d__law_mixed (hr.mono (by decide)) rfl passL (pa_cons (pv 4) (pa_cons (pe_op op_add (pe_op op_mulW (pe_ix ix_list (pv 0) pe_int (fun _ _ => rfl)) pe_int) (pv 6)) pa_nil)))))))
      (pss_one (ps_ret (pe_op op_mod (pv 5) (pv 1)))))))))))), ?_⟩
  obtain ⟨st, c, k, rfl, rfl, hst, hc, bk, h⟩ := h
  have hst0 := hst
  obtain ⟨cl, ns, pos, big, cnt, seed, left, num, h1, h2, h3, hp, hc0, hc1⟩ := hst.ex
  have S0 : StH H st cl ns pos big cnt seed left num := ⟨h1, h2, h3⟩
  refine ⟨_, rfl, _, _, rfl, rfl, _, rfl, ifD (fun lt => ?_) (fun ge => ?_)⟩
  · exact h 0 H SameS.rfl' (hst0.le (Nat.le_succ _)) (by decide) (.inr ⟨lt, rfl⟩)
  refine ⟨_, rfl, st, _, _, _, rfl, rfl, SqL.of S0.1, ga3, _, _, rfl, rfl, _, rfl, st, _, _, 3, rfl, rfl, S0.1, rfl, ?_⟩
  have S1 : StH (upd H st (.lst [.ref cl, .int pos, .int big, .int (cnt + 1), .int seed, .int left, .int num])) st cl ns pos big (cnt + 1) seed left num := S0.up
  dsimp only
  refine seq_intro (fun σ' H' => ∃ (o2 : Option V) (pos big left num : Int), σ' = [some (.ref st), some (.int k), o2, none, none, none, none] ∧ SameS st H H' ∧ 0 ≤ pos ∧ StH H' st cl ns pos big (cnt + 1) seed left num) (fun R hR => ?_) ?_
  · refine ⟨_, rfl, st, _, _, _, rfl, rfl, SqL.of S1.1, at_2, _, _, rfl, rfl, _, rfl, ifD (fun a1 => ?_) (fun _ => iteF (hR _ _ ⟨_, pos, big, left, num, rfl, S0.sm, hp, S1⟩))⟩
    refine ⟨_, rfl, st, _, _, _, rfl, rfl, SqL.of S1.1, ga5, _, _, rfl, rfl, _, rfl, ifD (fun a2 => ?_) (fun _ => iteF (hR _ _ ⟨_, pos, big, left, num, rfl, S0.sm, hp, S1⟩))⟩
    refine ⟨_, rfl, st, _, _, _, rfl, rfl, SqL.of S1.1, at_1, _, rfl, st, _, _, _, rfl, rfl, SqL.of S1.1, at_0, _, _, rfl, lenL S1.2.1, _, _, rfl, rfl, _, rfl, ifD (fun a3 => ?_) (fun _ => hR _ _ ⟨_, pos, big, left, num, rfl, S0.sm, hp, S1⟩)⟩
    have pl : pos.toNat < ns.length := by
      have a3 : pos < ((ns.map V.int).length : Int) := a3
      rw [List.length_map] at a3
      omega
    have ep : ((pos.toNat : Nat) : Int) = pos := by omega
    obtain ⟨cell, eg⟩ : ∃ cell : Int, atI (ns.map V.int) pos = some (.int cell) := by
      have := atI_nat (xs := ns.map V.int) (j := pos.toNat) (v := .int ns[pos.toNat]) (by rw [List.getElem?_map, List.getElem?_eq_getElem pl]; rfl)
      rw [ep] at this
      exact ⟨_, this⟩
    refine ⟨_, rfl, st, _, _, _, rfl, rfl, SqL.of S1.1, at_0, _, rfl, st, _, _, _, rfl, rfl, SqL.of S1.1, at_1, cl, _, _, _, rfl, rfl, SqL.of S1.2.1, eg, .inl ⟨_, rfl, ?_⟩⟩
    refine ⟨_, rfl, st, _, _, _, rfl, rfl, SqL.of S1.1, at_1, _, _, rfl, rfl, _, rfl, st, _, _, 1, rfl, rfl, S1.1, rfl, ?_⟩
    have S2 : StH (upd _ st (.lst [.ref cl, .int (pos + 1), .int big, .int (cnt + 1), .int seed, .int left, .int num])) st cl ns (pos + 1) big (cnt + 1) seed left num := S1.up
    refine ⟨_, rfl, _, rfl, _, _, rfl, rfl, cpow18, _, _, rfl, rfl, _, rfl, ifD (fun _ => ?_) (fun _ => ?_)⟩
    · refine ⟨_, rfl, st, _, _, 5, rfl, rfl, S2.1, rfl, ?_⟩
      have S3 : StH (upd _ st (.lst [.ref cl, .int (pos + 1), .int big, .int (cnt + 1), .int seed, .int 2, .int num])) st cl ns (pos + 1) big (cnt + 1) seed 2 num := S2.up
      refine ⟨_, rfl, _, rfl, st, _, _, 6, rfl, rfl, S3.1, rfl, ?_⟩
      exact hR _ _ ⟨_, pos + 1, big, 2, cell, rfl, (S0.sm.trans S1.sm).trans (S2.sm.trans S3.sm), by omega, S3.up⟩
    · refine ⟨_, rfl, _, rfl, _, rfl, st, _, _, 2, rfl, rfl, S2.1, rfl, ?_⟩
      exact hR _ _ ⟨_, pos + 1, _, left, num, rfl, (S0.sm.trans S1.sm).trans S2.sm, by omega, S2.up⟩
  rintro σ' H2 ⟨o2, pos2, big2, left2, num2, rfl, sm2, hp2, S2⟩
  have kp : 0 < k := by omega
  have ok : ∀ {Hx : Hp} {p b l n : Int}, 0 ≤ p → StH Hx st cl ns p b (cnt + 1) seed l n → StoreOk Hx st (c + 1) := fun hp S => ⟨cl, ns, _, _, _, _, _, _, S.1, S.2.1, S.2.2, hp, by omega, by omega⟩
  refine ⟨_, rfl, st, _, _, _, rfl, rfl, SqL.of S2.1, at_2, _, _, rfl, rfl, _, rfl, ifD (fun b1 => ?_) (fun _ => ?_)⟩
  · refine ⟨_, rfl, st, _, _, _, rfl, rfl, SqL.of S2.1, at_2, .inl ⟨_, rfl, _, rfl, _, _, rfl, rfl, kp, ?_⟩⟩
    refine ⟨_, rfl, st, _, _, _, rfl, rfl, SqL.of S2.1, at_2, _, rfl, _, _, rfl, rfl, cdiv kp bk, _, rfl, st, _, _, 2, rfl, rfl, S2.1, rfl, ?_⟩
    exact ⟨_, rfl, h _ _ (sm2.trans S2.sm) (ok hp2 S2.up) (Int.emod_nonneg _ (by omega)) (.inl (Int.emod_lt_of_pos _ kp))⟩
  · refine ⟨_, rfl, st, _, _, _, rfl, rfl, SqL.of S2.1, ga4, ?_⟩
    dsimp only
    refine seq_intro (fun σ' H' => ∃ (left num nb : Int), σ' = [some (.ref st), some (.int k), o2, none, some (.int nb), none, none] ∧ SameS st H H' ∧ StH H' st cl ns pos2 big2 (cnt + 1) seed left num) (fun R hR => ?_) ?_
    · refine ⟨_, rfl, st, _, _, _, rfl, rfl, SqL.of S2.1, ga5, _, _, rfl, rfl, _, rfl, ifD (fun _ => ?_) (fun _ => hR _ _ ⟨_, _, _, rfl, sm2, S2⟩)⟩
      refine ⟨_, rfl, st, _, _, _, rfl, rfl, SqL.of S2.1, ga5, _, _, rfl, rfl, _, rfl, st, _, _, 5, rfl, rfl, S2.1, rfl, ?_⟩
      have S3 : StH (upd _ st (.lst [.ref cl, .int pos2, .int big2, .int (cnt + 1), .int seed, .int (left2 - 1), .int num2])) st cl ns pos2 big2 (cnt + 1) seed (left2 - 1) num2 := S2.up
      exact ⟨_, rfl, st, _, _, _, rfl, rfl, SqL.of S3.1, ga6, hR _ _ ⟨_, _, _, rfl, sm2.trans S2.sm, S3⟩⟩
    rintro σ' H3 ⟨left3, num3, nb, rfl, sm3, S3⟩
    have hb := bits40 bk
    refine ⟨_, rfl, k, rfl, _, _, rfl, rfl, cdiv (by decide) (k := 5) (by decide), _, _, rfl, rfl, _, rfl, by omega, by omega, ?_⟩
    refine for_range (fun i σ H' => ∃ (v : Int) (o6 : Option V), σ = [some (.ref st), some (.int k), o2, none, some (.int nb), some (.int v), o6] ∧ H' = H3 ∧ 0 ≤ v ∧ v.natAbs < 2 ^ (30 * i + 1)) ?_ ?_ ?_
    · exact ⟨0, _, rfl, rfl, by decide, by decide⟩
    · rintro i σ H' hi ⟨v, o6, rfl, rfl, v0, bv⟩
      have hi2 : i ≤ 2 := by omega
      refine ⟨_, rfl, _, _, rfl, rfl, cmul bv (b := 29) (by decide) (by omega) (by decide) (by omega), ?_⟩
      have bc : (cnt + 1).natAbs < 2 ^ 20 := by omega
      refine ⟨_, rfl, _, rfl, st, _, _, _, rfl, rfl, SqL.of S3.1, ga3, _, _, rfl, rfl, cmul bc (b := 7) (by decide), _, rfl, _, _, rfl, rfl, _, _, rfl, nb, _, rfl, rfl, by omega, fun z z0 z1 => ?_⟩
      refine ⟨_, _, rfl, rfl, _, _, rfl, rfl, by omega, ?_⟩
      have b1 : (v * 268435456).natAbs < 2 ^ (30 * i + 30) := lt_mono (lt_mul bv (show (268435456 : Int).natAbs < 2 ^ 29 by decide)) (by omega)
      have b2 : z.natAbs < 2 ^ (30 * i + 30) := lt_mono (show z.natAbs < 2 ^ 28 by omega) (by omega)
      exact lt_mono (lt_add b1 b2) (by omega)
    · rintro σ H' ⟨v, o6, rfl, rfl, v0, bv⟩
      exact ⟨_, rfl, _, rfl, _, _, rfl, rfl, kp, h _ _ sm3 (ok hp2 S3) (Int.emod_nonneg _ (by omega)) (.inl (Int.emod_lt_of_pos _ kp))⟩
end
end Wk
set_option maxHeartbeats 4000000
namespace Wk
open PySem PySem.Spec PyProof.Rows L2
section
variable {P : Program} {w : World} {K : PySem.W.Frag} {mg : Str → Option Value} {base : Heap}
/-! ### the law's fractions -/
theorem div_nn (n d : Int) : Rat.divInt (-n) (-d) = Rat.divInt n d := by
  rw [Rat.divInt_eq_div, Rat.divInt_eq_div]
  push_cast
  grind
abbrev N__law_gcd : List Str := ["_law_left", "_law_right"]
theorem sc__law_gcd : FnScope N__law_gcd ["_law_left", "_law_right"] (defScope S__law_gcd) := ⟨rfl, rfl, rfl, by decide +kernel, rfl, by decide +kernel, by decide +kernel⟩
theorem ok__law_gcd (T : Tx K mg)   : Ok P w K mg base 1 "_law_gcd" ["_law_left", "_law_right"] spGcd := by
  obtain ⟨fd, F⟩ := T.f__law_gcd
  have sc := sc__law_gcd
  refine okFN (F := F) T.g__law_gcd F.kp (F.bindsN fun _ _ _ _ _ _ us hl => match us, hl with | [_, _], _ => rfl) sc sp2_len (fun cdv A outer s H vs Q E hr h => ?_)
  obtain ⟨u, v, rfl, h⟩ := h
  refine ⟨_, (pss_cons (ps_set (i := 0) sc.nd rfl (Or.inl rfl) (pe_callB call_abs (by rfl) T.b_abs (by decide +kernel) (pa_cons (pv 0) pa_nil)))
      (pss_cons (ps_set (i := 1) sc.nd rfl (Or.inl rfl) (pe_callB call_abs (by rfl) T.b_abs (by decide +kernel) (pa_cons (pv 1) pa_nil)))
      (pss_cons (ps_while PassesOwn.never (pt_cmpR op_gt (pv 1) pe_int (nomark _)) (pss_one (ps_par (i := 0) (j := 1) rfl sc.nd rfl rfl (by decide) rfl rfl (pa_cons (pv 1) (pa_cons (pe_op op_mod (pe_callTy call_int1 (by rfl) T.b_int (by decide +kernel) (pa_cons (pv 0) pa_nil)) (pv 1)) pa_nil)) (by rfl))))
      (pss_one (ps_ret (pv 0)))))), ?_⟩
  obtain ⟨i, j, rfl, rfl, h⟩ := h
  refine ⟨_, rfl, _, rfl, ?_⟩
  refine ⟨_, rfl, _, rfl, ?_⟩
  let W : Nat → L2.St → Hp → Prop := fun m σ H' => ∃ a b : Int, σ = [some (.int a), some (.int b)] ∧ H' = H ∧ 0 ≤ a ∧ 0 ≤ b ∧ Int.gcd a b = Int.gcd i j ∧ m = b.toNat
  refine ⟨W, ⟨_, _, _, rfl, rfl, abs_nn i, abs_nn j, abs_gcd i j, rfl⟩, ?_⟩
  rintro m σ H' ⟨a, b, rfl, rfl, ha, hb, hg, rfl⟩
  refine ⟨_, rfl, _, _, rfl, rfl, _, rfl, ifD (fun hne => ?_) (fun he => ?_)⟩
  · refine ⟨fun σ' H' => ∃ m', m' < b.toNat ∧ W m' σ' H', fun _ _ z => z, ?_⟩
    have hne : b ≠ 0 := by have : 0 < b := hne; omega
    refine ⟨_, rfl, _, rfl, .inl ⟨_, rfl, _, rfl, _, _, rfl, rfl, (by show 0 < b; omega), _, _, rfl, ?_⟩⟩
    have h1 := Int.emod_nonneg a hne
    have h2 := Int.emod_lt_of_pos a (show 0 < b by omega)
    exact ⟨(a % b).toNat, by omega, b, a % b, rfl, rfl, hb, h1, (gcd_step a b).trans hg, rfl⟩
  · refine ⟨_, rfl, ?_⟩
    have he : b = 0 := by have : ¬ 0 < b := he; omega
    subst he
    rw [Int.gcd_zero] at hg
    have : a = ((Int.gcd i j : Nat) : Int) := by omega
    rw [this]
    exact h
def spLawLow : Sp := sp2 fun a b H Q _ => ∃ n d : Int, a = .int n ∧ b = .int d ∧ d.natAbs < 2 ^ 9000 ∧ ∀ p, H p = none → Q (.ref p) (upd H p (frO (Rat.divInt n d)))
theorem frO_num {x : Rat} {a b : Int} (h1 : a = x.num) (h2 : b = (x.den : Int)) : HO.tup [.int a, .int b] = frO x := by rw [h1, h2]
abbrev N__law_lowest : List Str := ["_law_top", "_law_bottom", "_law_common"]
theorem sc__law_lowest : FnScope N__law_lowest ["_law_top", "_law_bottom"] (defScope S__law_lowest) := ⟨rfl, rfl, rfl, by decide +kernel, rfl, by decide +kernel, by decide +kernel⟩
theorem ok__law_lowest (T : Tx K mg) (d__law_gcd : Ok P w K mg base 1 "_law_gcd" ["_law_left", "_law_right"] spGcd)  : Ok P w K mg base 2 "_law_lowest" ["_law_top", "_law_bottom"] spLawLow := by
  obtain ⟨fd, F⟩ := T.f__law_lowest
  have sc := sc__law_lowest
  refine okFN (F := F) T.g__law_lowest F.kp (F.bindsN fun _ _ _ _ _ _ us hl => match us, hl with | [_, _], _ => rfl) sc sp2_len (fun cdv A outer s H vs Q E hr h => ?_)
  obtain ⟨u, v, rfl, h⟩ := h
  refine ⟨_, (pss_cons (ps_if (pt_cmpR op_eq (pv 1) pe_int (nomark _)) (pss_one (ps_ret (pe_tup (pa_cons pe_int (pa_cons pe_int pa_nil))))) pss_nil)
      (pss_cons (ps_if (pt_cmpR op_lt (pv 1) pe_int (nomark _)) (pss_cons (ps_set (i := 0) sc.nd rfl (Or.inl rfl) (pe_un un_neg (pv 0)))
      (pss_one (ps_set (i := 1) sc.nd rfl (Or.inl rfl) (pe_un un_neg (pv 1))))) pss_nil)
      (pss_cons (ps_set (i := 2) sc.nd rfl (Or.inl rfl) (pe_f d__law_gcd (hr.mono (by decide)) rfl passL (pa_cons (pv 0) (pa_cons (pv 1) pa_nil))))
      (pss_one (ps_ret (pe_tup (pa_cons (pe_op op_fdivW (pv 0) (pv 2)) (pa_cons (pe_op op_fdivW (pv 1) (pv 2)) pa_nil)))))))), ?_⟩
  obtain ⟨n, d, rfl, rfl, hl, h⟩ := h
  refine ⟨_, rfl, rfl, _, rfl, ifEq (fun e => ?_) (fun e => ?_)⟩
  · subst e
    refine ⟨line2, fun p hp => ?_⟩
    have := h p hp
    rw [Rat.divInt_zero] at this
    exact this
  · dsimp only [tNext]
    refine seq_intro (fun σ' H' => ∃ n' d' : Int, σ' = [some (.int n'), some (.int d'), none] ∧ H' = H ∧ 0 < d' ∧ d'.natAbs = d.natAbs ∧ Rat.divInt n' d' = Rat.divInt n d) (fun R hR => ?_) ?_
    · refine ⟨_, rfl, _, _, rfl, rfl, _, rfl, ifD (fun lt => ?_) (fun ge => ?_)⟩
      · have lt : d < 0 := lt
        exact ⟨_, rfl, _, rfl, _, rfl, _, rfl, hR _ _ ⟨_, _, rfl, rfl, by omega, by omega, div_nn n d⟩⟩
      · have ge : ¬ d < 0 := ge
        exact hR _ _ ⟨_, _, rfl, rfl, by omega, rfl, rfl⟩
    · rintro σ' H' ⟨n', d', rfl, rfl, dp, ed, er⟩
      rw [← er] at h
      have gp := gcd_pos (n := n') (d := d') (by omega)
      have gl : (((Int.gcd n' d' : Nat) : Int)).natAbs < 2 ^ 9000 := Nat.lt_of_le_of_lt (Int.gcd_le_natAbs_right n' (show d' ≠ 0 by omega)) (by omega)
      refine ⟨_, rfl, _, rfl, _, _, rfl, n', d', rfl, rfl, ?_⟩
      refine ⟨_, rfl, _, rfl, _, _, rfl, rfl, cdiv gp gl, _, rfl, _, rfl, _, _, rfl, rfl, cdiv gp gl, line2, fun p hp => ?_⟩
      have := h p hp
      rw [← frO_num (low_num' n' d' dp) (low_den' n' d' dp)] at this
      exact this
theorem z9000 {i : Int} {k : Nat} (h : i.natAbs < 2 ^ k) (hk : k ≤ 9000) : i.natAbs < 2 ^ 9000 := lt_mono h hk
def spBinL (f : Rat → Rat → Rat) : Sp := sp2 fun a b H Q _ => ∃ x y : Rat, FrV H a x ∧ FrV H b y ∧ Big x ∧ Big y ∧ ∀ p, H p = none → Q (.ref p) (upd H p (frO (f x y)))
abbrev N__law_plus : List Str := ["_law_left", "_law_right"]
theorem sc__law_plus : FnScope N__law_plus ["_law_left", "_law_right"] (defScope S__law_plus) := ⟨rfl, rfl, rfl, by decide +kernel, rfl, by decide +kernel, by decide +kernel⟩
theorem ok__law_plus (T : Tx K mg) (d__law_lowest : Ok P w K mg base 2 "_law_lowest" ["_law_top", "_law_bottom"] spLawLow)  : Ok P w K mg base 3 "_law_plus" ["_law_left", "_law_right"] (spBinL (fun x y => x + y)) := by
  obtain ⟨fd, F⟩ := T.f__law_plus
  have sc := sc__law_plus
  refine okFN (F := F) T.g__law_plus F.kp (F.bindsN fun _ _ _ _ _ _ us hl => match us, hl with | [_, _], _ => rfl) sc sp2_len (fun cdv A outer s H vs Q E hr h => ?_)
  obtain ⟨u, v, rfl, h⟩ := h
  refine ⟨_, (pss_one (ps_ret (pe_f d__law_lowest (hr.mono (by decide)) rfl passL (pa_cons (pe_op op_add (pe_op op_mulW (pe_ix ix_tup (pv 0) pe_int (fun _ _ => rfl)) (pe_ix ix_tup (pv 1) pe_int (fun _ _ => rfl))) (pe_op op_mulW (pe_ix ix_tup (pv 1) pe_int (fun _ _ => rfl)) (pe_ix ix_tup (pv 0) pe_int (fun _ _ => rfl)))) (pa_cons (pe_op op_mulW (pe_ix ix_tup (pv 0) pe_int (fun _ _ => rfl)) (pe_ix ix_tup (pv 1) pe_int (fun _ _ => rfl))) pa_nil))))), ?_⟩
  obtain ⟨x, y, hx, hy, bx, by_, h⟩ := h
  obtain ⟨a, rfl, ha⟩ := hx
  obtain ⟨b, rfl, hb⟩ := hy
  simp only [add_divInt] at h
  exact ⟨_, rfl, _, _, _, _, rfl, rfl, sq2 ha, at_0, _, rfl, _, _, _, _, rfl, rfl, sq2 hb, at_1, _, _, rfl, rfl, cmul bx.1 by_.d,
    _, rfl, _, _, _, _, rfl, rfl, sq2 hb, at_0, _, rfl, _, _, _, _, rfl, rfl, sq2 ha, at_1, _, _, rfl, rfl, cmul by_.1 bx.d, _, _, rfl, rfl,
    _, rfl, _, _, _, _, rfl, rfl, sq2 ha, at_1, _, rfl, _, _, _, _, rfl, rfl, sq2 hb, at_1, _, _, rfl, rfl, cmul bx.d by_.d,
    _, _, rfl, _, _, rfl, rfl, z9000 (bx.rawD by_) (by decide), h⟩
abbrev N__law_minus : List Str := ["_law_left", "_law_right"]
theorem sc__law_minus : FnScope N__law_minus ["_law_left", "_law_right"] (defScope S__law_minus) := ⟨rfl, rfl, rfl, by decide +kernel, rfl, by decide +kernel, by decide +kernel⟩
theorem ok__law_minus (T : Tx K mg) (d__law_lowest : Ok P w K mg base 2 "_law_lowest" ["_law_top", "_law_bottom"] spLawLow)  : Ok P w K mg base 3 "_law_minus" ["_law_left", "_law_right"] (spBinL (fun x y => x - y)) := by
  obtain ⟨fd, F⟩ := T.f__law_minus
  have sc := sc__law_minus
  refine okFN (F := F) T.g__law_minus F.kp (F.bindsN fun _ _ _ _ _ _ us hl => match us, hl with | [_, _], _ => rfl) sc sp2_len (fun cdv A outer s H vs Q E hr h => ?_)
  obtain ⟨u, v, rfl, h⟩ := h
  refine ⟨_, (pss_one (ps_ret (pe_f d__law_lowest (hr.mono (by decide)) rfl passL (pa_cons (pe_op op_sub (pe_op op_mulW (pe_ix ix_tup (pv 0) pe_int (fun _ _ => rfl)) (pe_ix ix_tup (pv 1) pe_int (fun _ _ => rfl))) (pe_op op_mulW (pe_ix ix_tup (pv 1) pe_int (fun _ _ => rfl)) (pe_ix ix_tup (pv 0) pe_int (fun _ _ => rfl)))) (pa_cons (pe_op op_mulW (pe_ix ix_tup (pv 0) pe_int (fun _ _ => rfl)) (pe_ix ix_tup (pv 1) pe_int (fun _ _ => rfl))) pa_nil))))), ?_⟩
  obtain ⟨x, y, hx, hy, bx, by_, h⟩ := h
  obtain ⟨a, rfl, ha⟩ := hx
  obtain ⟨b, rfl, hb⟩ := hy
  simp only [sub_divInt] at h
  exact ⟨_, rfl, _, _, _, _, rfl, rfl, sq2 ha, at_0, _, rfl, _, _, _, _, rfl, rfl, sq2 hb, at_1, _, _, rfl, rfl, cmul bx.1 by_.d,
    _, rfl, _, _, _, _, rfl, rfl, sq2 hb, at_0, _, rfl, _, _, _, _, rfl, rfl, sq2 ha, at_1, _, _, rfl, rfl, cmul by_.1 bx.d, _, _, rfl, rfl,
    _, rfl, _, _, _, _, rfl, rfl, sq2 ha, at_1, _, rfl, _, _, _, _, rfl, rfl, sq2 hb, at_1, _, _, rfl, rfl, cmul bx.d by_.d,
    _, _, rfl, _, _, rfl, rfl, z9000 (bx.rawD by_) (by decide), h⟩
abbrev N__law_times : List Str := ["_law_left", "_law_right"]
theorem sc__law_times : FnScope N__law_times ["_law_left", "_law_right"] (defScope S__law_times) := ⟨rfl, rfl, rfl, by decide +kernel, rfl, by decide +kernel, by decide +kernel⟩
theorem ok__law_times (T : Tx K mg) (d__law_lowest : Ok P w K mg base 2 "_law_lowest" ["_law_top", "_law_bottom"] spLawLow)  : Ok P w K mg base 3 "_law_times" ["_law_left", "_law_right"] (spBinL (fun x y => x * y)) := by
  obtain ⟨fd, F⟩ := T.f__law_times
  have sc := sc__law_times
  refine okFN (F := F) T.g__law_times F.kp (F.bindsN fun _ _ _ _ _ _ us hl => match us, hl with | [_, _], _ => rfl) sc sp2_len (fun cdv A outer s H vs Q E hr h => ?_)
  obtain ⟨u, v, rfl, h⟩ := h
  refine ⟨_, (pss_one (ps_ret (pe_f d__law_lowest (hr.mono (by decide)) rfl passL (pa_cons (pe_op op_mulW (pe_ix ix_tup (pv 0) pe_int (fun _ _ => rfl)) (pe_ix ix_tup (pv 1) pe_int (fun _ _ => rfl))) (pa_cons (pe_op op_mulW (pe_ix ix_tup (pv 0) pe_int (fun _ _ => rfl)) (pe_ix ix_tup (pv 1) pe_int (fun _ _ => rfl))) pa_nil))))), ?_⟩
  obtain ⟨x, y, hx, hy, bx, by_, h⟩ := h
  obtain ⟨a, rfl, ha⟩ := hx
  obtain ⟨b, rfl, hb⟩ := hy
  simp only [mul_divInt] at h
  exact ⟨_, rfl, _, _, _, _, rfl, rfl, sq2 ha, at_0, _, rfl, _, _, _, _, rfl, rfl, sq2 hb, at_0, _, _, rfl, rfl, cmul bx.1 by_.1,
    _, rfl, _, _, _, _, rfl, rfl, sq2 ha, at_1, _, rfl, _, _, _, _, rfl, rfl, sq2 hb, at_1, _, _, rfl, rfl, cmul bx.d by_.d,
    _, _, rfl, _, _, rfl, rfl, z9000 (bx.rawD by_) (by decide), h⟩
abbrev N__law_over : List Str := ["_law_left", "_law_right"]
theorem sc__law_over : FnScope N__law_over ["_law_left", "_law_right"] (defScope S__law_over) := ⟨rfl, rfl, rfl, by decide +kernel, rfl, by decide +kernel, by decide +kernel⟩
theorem ok__law_over (T : Tx K mg) (d__law_lowest : Ok P w K mg base 2 "_law_lowest" ["_law_top", "_law_bottom"] spLawLow)  : Ok P w K mg base 3 "_law_over" ["_law_left", "_law_right"] (spBinL (fun x y => x / y)) := by
  obtain ⟨fd, F⟩ := T.f__law_over
  have sc := sc__law_over
  refine okFN (F := F) T.g__law_over F.kp (F.bindsN fun _ _ _ _ _ _ us hl => match us, hl with | [_, _], _ => rfl) sc sp2_len (fun cdv A outer s H vs Q E hr h => ?_)
  obtain ⟨u, v, rfl, h⟩ := h
  refine ⟨_, (pss_one (ps_ret (pe_f d__law_lowest (hr.mono (by decide)) rfl passL (pa_cons (pe_op op_mulW (pe_ix ix_tup (pv 0) pe_int (fun _ _ => rfl)) (pe_ix ix_tup (pv 1) pe_int (fun _ _ => rfl))) (pa_cons (pe_op op_mulW (pe_ix ix_tup (pv 0) pe_int (fun _ _ => rfl)) (pe_ix ix_tup (pv 1) pe_int (fun _ _ => rfl))) pa_nil))))), ?_⟩
  obtain ⟨x, y, hx, hy, bx, by_, h⟩ := h
  obtain ⟨a, rfl, ha⟩ := hx
  obtain ⟨b, rfl, hb⟩ := hy
  simp only [div_divInt] at h
  exact ⟨_, rfl, _, _, _, _, rfl, rfl, sq2 ha, at_0, _, rfl, _, _, _, _, rfl, rfl, sq2 hb, at_1, _, _, rfl, rfl, cmul bx.1 by_.d,
    _, rfl, _, _, _, _, rfl, rfl, sq2 ha, at_1, _, rfl, _, _, _, _, rfl, rfl, sq2 hb, at_0, _, _, rfl, rfl, cmul bx.d by_.1,
    _, _, rfl, _, _, rfl, rfl, z9000 (bx.rawR by_) (by decide), h⟩
theorem sgn_of (x y : Rat) : (if decide (x.num * (y.den : Int) - y.num * (x.den : Int) > 0) = true then (1 : Int) else 0) - (if decide (x.num * (y.den : Int) - y.num * (x.den : Int) < 0) = true then 1 else 0) = sgn x y := by
  have l1 := Rat.lt_iff x y
  have l2 := Rat.lt_iff y x
  unfold sgn
  by_cases c : x < y
  · have := l1.mp c
    rw [if_pos c]
    have a : ¬ (x.num * (y.den : Int) - y.num * (x.den : Int) > 0) := by omega
    have b : x.num * (y.den : Int) - y.num * (x.den : Int) < 0 := by omega
    rw [decide_eq_false a, decide_eq_true b]; rfl
  · rw [if_neg c]
    by_cases d : y < x
    · have := l2.mp d
      rw [if_pos d]
      have a : (x.num * (y.den : Int) - y.num * (x.den : Int) > 0) := by omega
      have b : ¬ (x.num * (y.den : Int) - y.num * (x.den : Int) < 0) := by omega
      rw [decide_eq_true a, decide_eq_false b]; rfl
    · rw [if_neg d]
      have a : ¬ (x.num * (y.den : Int) - y.num * (x.den : Int) > 0) := fun z => d (l2.mpr (by omega))
      have b : ¬ (x.num * (y.den : Int) - y.num * (x.den : Int) < 0) := fun z => c (l1.mpr (by omega))
      rw [decide_eq_false a, decide_eq_false b]; rfl
abbrev N__law_sign : List Str := ["_law_left", "_law_right", "_law_gap"]
theorem sc__law_sign : FnScope N__law_sign ["_law_left", "_law_right"] (defScope S__law_sign) := ⟨rfl, rfl, rfl, by decide +kernel, rfl, by decide +kernel, by decide +kernel⟩
theorem ok__law_sign (T : Tx K mg)   : Ok P w K mg base 1 "_law_sign" ["_law_left", "_law_right"] spCmp := by
  obtain ⟨fd, F⟩ := T.f__law_sign
  have sc := sc__law_sign
  refine okFN (F := F) T.g__law_sign F.kp (F.bindsN fun _ _ _ _ _ _ us hl => match us, hl with | [_, _], _ => rfl) sc sp2_len (fun cdv A outer s H vs Q E hr h => ?_)
  obtain ⟨u, v, rfl, h⟩ := h
  refine ⟨_, (pss_cons (ps_set (i := 2) sc.nd rfl (Or.inl rfl) (pe_op op_sub (pe_op op_mulW (pe_ix ix_tup (pv 0) pe_int (fun _ _ => rfl)) (pe_ix ix_tup (pv 1) pe_int (fun _ _ => rfl))) (pe_op op_mulW (pe_ix ix_tup (pv 1) pe_int (fun _ _ => rfl)) (pe_ix ix_tup (pv 0) pe_int (fun _ _ => rfl)))))
      (pss_one (ps_ret (pe_op op_sub (pe_callTy call_int1 (by rfl) T.b_int (by decide +kernel) (pa_cons (pe_cmpR op_gt (pv 2) pe_int (nomark _)) pa_nil)) (pe_callTy call_int1 (by rfl) T.b_int (by decide +kernel) (pa_cons (pe_cmpR op_lt (pv 2) pe_int (nomark _)) pa_nil)))))), ?_⟩
  obtain ⟨x, y, hx, hy, bx, by_, h⟩ := h
  obtain ⟨a, rfl, ha⟩ := hx
  obtain ⟨b, rfl, hb⟩ := hy
  rw [← sgn_of] at h
  exact ⟨_, rfl, _, _, _, _, rfl, rfl, sq2 ha, at_0, _, rfl, _, _, _, _, rfl, rfl, sq2 hb, at_1, _, _, rfl, rfl, cmul bx.1 by_.d,
    _, rfl, _, _, _, _, rfl, rfl, sq2 hb, at_0, _, rfl, _, _, _, _, rfl, rfl, sq2 ha, at_1, _, _, rfl, rfl, cmul by_.1 bx.d, _, _, rfl, rfl,
    _, rfl, _, _, rfl, rfl, .inr ⟨_, rfl, _, rfl, _, _, rfl, rfl, .inr ⟨_, rfl, _, _, rfl, rfl, h⟩⟩⟩
abbrev N__law_floor : List Str := ["_law_value"]
theorem sc__law_floor : FnScope N__law_floor ["_law_value"] (defScope S__law_floor) := ⟨rfl, rfl, rfl, by decide +kernel, rfl, by decide +kernel, by decide +kernel⟩
theorem ok__law_floor (T : Tx K mg)   : Ok P w K mg base 1 "_law_floor" ["_law_value"] spFloor := by
  obtain ⟨fd, F⟩ := T.f__law_floor
  have sc := sc__law_floor
  refine okFN (F := F) T.g__law_floor F.kp (F.bindsN fun _ _ _ _ _ _ us hl => match us, hl with | [_], _ => rfl) sc sp1_len (fun cdv A outer s H vs Q E hr h => ?_)
  obtain ⟨u, rfl, h⟩ := h
  refine ⟨_, (pss_one (ps_ret (pe_op op_fdivW (pe_ix ix_tup (pv 0) pe_int (fun _ _ => rfl)) (pe_ix ix_tup (pv 0) pe_int (fun _ _ => rfl))))), ?_⟩
  obtain ⟨x, hx, bx, h⟩ := h
  rw [Rat.floor_def] at h
  obtain ⟨a, rfl, ha⟩ := hx
  exact ⟨_, rfl, _, _, _, _, rfl, rfl, sq2 ha, at_0, _, rfl, _, _, _, _, rfl, rfl, sq2 ha, at_1, _, _, rfl, rfl, cdiv (den_gt x) bx.d, h⟩
def spPartL : Sp := sp1 fun a H Q _ => ∃ x : Rat, FrV H a x ∧ Big x ∧ ∀ p, H p = none → Q (.ref p) (upd H p (frO (fr x)))
abbrev N__law_part : List Str := ["_law_value"]
theorem sc__law_part : FnScope N__law_part ["_law_value"] (defScope S__law_part) := ⟨rfl, rfl, rfl, by decide +kernel, rfl, by decide +kernel, by decide +kernel⟩
theorem ok__law_part (T : Tx K mg) (d__law_lowest : Ok P w K mg base 2 "_law_lowest" ["_law_top", "_law_bottom"] spLawLow)  : Ok P w K mg base 3 "_law_part" ["_law_value"] spPartL := by
  obtain ⟨fd, F⟩ := T.f__law_part
  have sc := sc__law_part
  refine okFN (F := F) T.g__law_part F.kp (F.bindsN fun _ _ _ _ _ _ us hl => match us, hl with | [_], _ => rfl) sc sp1_len (fun cdv A outer s H vs Q E hr h => ?_)
  obtain ⟨u, rfl, h⟩ := h
  refine ⟨_, (pss_one (ps_ret (pe_f d__law_lowest (hr.mono (by decide)) rfl passL (pa_cons (pe_op op_mod (pe_callTy call_int1 (by rfl) T.b_int (by decide +kernel) (pa_cons (pe_ix ix_tup (pv 0) pe_int (fun _ _ => rfl)) pa_nil)) (pe_ix ix_tup (pv 0) pe_int (fun _ _ => rfl))) (pa_cons (pe_ix ix_tup (pv 0) pe_int (fun _ _ => rfl)) pa_nil))))), ?_⟩
  obtain ⟨x, hx, bx, h⟩ := h
  rw [fr_mk] at h
  obtain ⟨a, rfl, ha⟩ := hx
  exact ⟨_, rfl, _, _, _, _, rfl, rfl, sq2 ha, at_0, .inl ⟨_, rfl, _, rfl, _, _, _, _, rfl, rfl, sq2 ha, at_1, _, _, rfl, rfl, den_gt x, _, rfl, _, _, _, _, rfl, rfl, sq2 ha, at_1, _, _, rfl, _, _, rfl, rfl, z9000 bx.d (by decide), h⟩⟩
def sgnS : Str := "abcdefghijklmnopqrstuvwxyz0123456789"
def spSigns : Sp := sp0 fun H Q _ => Q (.str sgnS) H
abbrev N__law_signs : List Str := []
theorem sc__law_signs : FnScope N__law_signs [] (defScope S__law_signs) := ⟨rfl, rfl, rfl, by decide +kernel, rfl, by decide +kernel, by decide +kernel⟩
theorem ok__law_signs (T : Tx K mg)   : Ok P w K mg base 1 "_law_signs" [] spSigns := by
  obtain ⟨fd, F⟩ := T.f__law_signs
  have sc := sc__law_signs
  refine okFN (F := F) T.g__law_signs F.kp (F.bindsN fun _ _ _ _ _ _ us hl => match us, hl with | [], _ => rfl) sc sp0_len (fun cdv A outer s H vs Q E hr h => ?_)
  obtain ⟨rfl, h⟩ := h
  refine ⟨_, (pss_one (ps_ret pe_str)), ?_⟩
  exact h
end
end Wk
set_option maxHeartbeats 4000000
namespace Wk
open PySem PySem.Spec PyProof.Rows L2
section
variable {P : Program} {w : World} {K : PySem.W.Frag} {mg : Str → Option Value} {base : Heap}
def spPick : Sp := sp2 fun s r H Q _ => ∃ (st : Addr) (c : Nat), s = .ref st ∧ StoreOk H st c ∧ c ≤ 90000 ∧
  ((∃ l xs, r = .ref l ∧ H l = some (.lst xs) ∧ l ≠ st ∧ 0 < xs.length ∧ xs.length ≤ 1000 ∧ ∀ (i : Nat) x H', xs[i]? = some x → SameS st H H' → StoreOk H' st (c + 1) → Q x H') ∨
    ∃ z : Str, r = .str z ∧ 0 < z.cps.toList.length ∧ z.cps.toList.length ≤ 1000 ∧ ∀ d H', d ∈ z.cps.toList → SameS st H H' → StoreOk H' st (c + 1) → Q (.str ⟨#[d]⟩) H')
abbrev N__law_pick : List Str := ["_law_store_here", "_law_row"]
theorem sc__law_pick : FnScope N__law_pick ["_law_store_here", "_law_row"] (defScope S__law_pick) := ⟨rfl, rfl, rfl, by decide +kernel, rfl, by decide +kernel, by decide +kernel⟩
theorem ok__law_pick (T : Tx K mg) (d__law_take : Ok P w K mg base 2 "_law_take" ["_law_store_here", "_law_many_here"] spTake)  : Ok P w K mg base 3 "_law_pick" ["_law_store_here", "_law_row"] spPick := by
  obtain ⟨fd, F⟩ := T.f__law_pick
  have sc := sc__law_pick
  refine okFN (F := F) T.g__law_pick F.kp (F.bindsN fun _ _ _ _ _ _ us hl => match us, hl with | [_, _], _ => rfl) sc sp2_len (fun cdv A outer s H vs Q E hr h => ?_)
  obtain ⟨u, v, rfl, h⟩ := h
  refine ⟨_, (pss_one (ps_ret (pe_ix ix_seq (pv 1) (pe_f d__law_take (hr.mono (by decide)) rfl passL (pa_cons (pv 0) (pa_cons (pe_callB call_len (by rfl) T.b_len PySem.boot_len (pa_cons (pv 1) pa_nil)) pa_nil))) (fun _ _ => rfl)))), ?_⟩
  obtain ⟨st, c, rfl, hs, hc, h⟩ := h
  rcases h with ⟨l, xs, rfl, hl, nl, h0, h1, h⟩ | ⟨z, rfl, h0, h1, h⟩
  · refine ⟨_, rfl, _, rfl, _, rfl, _, _, rfl, lenL hl, _, _, rfl, st, c, _, rfl, rfl, hs, by omega, by omega, fun z H' sm hs' z0 z1 => ?_⟩
    have zl : z.toNat < xs.length := by omega
    have ez : ((z.toNat : Nat) : Int) = z := by omega
    refine .inl ⟨l, xs, z, xs[z.toNat]'zl, rfl, rfl, SqL.of (sm.keep _ _ nl hl), ?_, h z.toNat _ H' (List.getElem?_eq_getElem zl) sm hs'⟩
    have := atI_nat (xs := xs) (j := z.toNat) (v := xs[z.toNat]'zl) (List.getElem?_eq_getElem zl)
    rw [ez] at this
    exact this
  · have lc := len_cps z
    have l1 : z.length ≤ sizeLine := Nat.le_trans (show z.length ≤ 1000 by omega) (by decide)
    refine ⟨_, rfl, _, rfl, _, rfl, .str z, _, rfl, ⟨l1, rfl⟩, _, _, rfl, st, c, _, rfl, rfl, hs, by omega, by omega, fun i H' sm hs' z0 z1 => ?_⟩
    have zl : i.toNat < z.cps.toList.length := by omega
    have ez : ((i.toNat : Nat) : Int) = i := by omega
    refine .inr (.inr ⟨z, i, z.cps.toList[i.toNat]'zl, rfl, rfl, l1, ?_, h _ H' (List.getElem_mem zl) sm hs'⟩)
    have := atI_nat (xs := z.cps.toList) (j := i.toNat) (v := z.cps.toList[i.toNat]'zl) (List.getElem?_eq_getElem zl)
    rw [ez] at this
    exact this
def spSize : Sp := sp2 fun s m H Q _ => ∃ (st : Addr) (c : Nat), s = .ref st ∧ m = .int 4 ∧ StoreOk H st c ∧ c ≤ 90000 ∧ ∀ z H', SameS st H H' → StoreOk H' st (c + 3) → 0 ≤ z → z ≤ 4 → Q (.int z) H'
abbrev N__law_size : List Str := ["_law_store_here", "_law_top", "_law_spot"]
theorem sc__law_size : FnScope N__law_size ["_law_store_here", "_law_top"] (defScope S__law_size) := ⟨rfl, rfl, rfl, by decide +kernel, rfl, by decide +kernel, by decide +kernel⟩
theorem ok__law_size (T : Tx K mg) (d__law_take : Ok P w K mg base 2 "_law_take" ["_law_store_here", "_law_many_here"] spTake)  : Ok P w K mg base 3 "_law_size" ["_law_store_here", "_law_top"] spSize := by
  obtain ⟨fd, F⟩ := T.f__law_size
  have sc := sc__law_size
  refine okFN (F := F) T.g__law_size F.kp (F.bindsN fun _ _ _ _ _ _ us hl => match us, hl with | [_, _], _ => rfl) sc sp2_len (fun cdv A outer s H vs Q E hr h => ?_)
  obtain ⟨u, v, rfl, h⟩ := h
  refine ⟨_, (pss_cons (ps_set (i := 2) sc.nd rfl (Or.inl rfl) (pe_f d__law_take (hr.mono (by decide)) rfl passL (pa_cons (pv 0) (pa_cons pe_int pa_nil))))
      (pss_cons (ps_if (pt_cmpR op_lt (pv 2) pe_int (nomark _)) (pss_one (ps_ret (pe_callB (call_min2 rfl) (by rfl) T.b_min (by decide +kernel) (pa_cons (pv 2) (pa_cons (pv 1) pa_nil))))) pss_nil)
      (pss_cons (ps_if (PW.pt (pw_and (pt_cmpR op_eq (pv 2) pe_int (nomark _)) (pw_and1 (PW.pt (pw_or (pt_cmpR op_lt (pv 1) pe_int (nomark _)) (pw_or1 (pt_cmpR op_eq (pe_f d__law_take (hr.mono (by decide)) rfl passL (pa_cons (pv 0) (pa_cons pe_int pa_nil))) pe_int (nomark _)))))))) (pss_one (ps_ret (pv 1))) pss_nil)
      (pss_one (ps_ret (pe_f d__law_take (hr.mono (by decide)) rfl passL (pa_cons (pv 0) (pa_cons (pe_op op_add (pe_callB (call_min2 rfl) (by rfl) T.b_min (by decide +kernel) (pa_cons (pv 1) (pa_cons pe_int pa_nil))) pe_int) pa_nil)))))))), ?_⟩
  obtain ⟨st, c, rfl, rfl, hs, hc, h⟩ := h
  refine ⟨_, rfl, _, _, rfl, st, c, 12, rfl, rfl, hs, by omega, by decide, fun z H1 s1 hs1 z0 z1 => ?_⟩
  refine ⟨_, rfl, _, _, rfl, rfl, _, rfl, ifD (fun a => ?_) (fun a => ?_)⟩
  · have a : z < 2 := a
    refine ⟨_, rfl, _, rfl, _, _, rfl, h _ H1 s1 (hs1.le (by omega)) ?_ ?_⟩ <;> split <;> omega
  · have a : ¬ z < 2 := a
    refine ⟨_, rfl, rfl, _, rfl, ifEq (fun b => ?_) (fun b => ?_)⟩
    · refine ⟨_, rfl, _, _, rfl, rfl, _, rfl, ifD (fun _ => ?_) (fun n => absurd (by show (4 : Int) < 13; decide) n)⟩
      exact iteT ⟨_, rfl, h 4 H1 s1 (hs1.le (by omega)) (by decide) (by decide)⟩
    · refine iteF ?_
      refine ⟨_, rfl, _, rfl, _, _, rfl, _, _, rfl, rfl, _, _, rfl, st, c + 1, 5, rfl, rfl, hs1, by omega, by decide, fun y H2 s2 hs2 y0 y1 => ?_⟩
      exact h y H2 (s1.trans s2) (hs2.le (by omega)) y0 (by omega)
def spWhole : Sp := sp2 fun s m H Q _ => ∃ (st : Addr) (c : Nat) (r : Int), s = .ref st ∧ m = .int r ∧ StoreOk H st c ∧ c ≤ 90000 ∧ 1 ≤ r ∧ r ≤ 1000 ∧ ∀ z H', SameS st H H' → StoreOk H' st (c + 2) → -r ≤ z → z ≤ r → Q (.int z) H'
theorem line5 {a b c d e : V} : ([a, b, c, d, e] : List V).length ≤ sizeLine := by show 5 ≤ sizeLine; decide
theorem five {z : Int} (h0 : 0 ≤ z) (h1 : z < 5) : z = 0 ∨ z = 1 ∨ z = 2 ∨ z = 3 ∨ z = 4 := by omega
abbrev N__law_whole : List Str := ["_law_store_here", "_law_reach", "_law_spot"]
theorem sc__law_whole : FnScope N__law_whole ["_law_store_here", "_law_reach"] (defScope S__law_whole) := ⟨rfl, rfl, rfl, by decide +kernel, rfl, by decide +kernel, by decide +kernel⟩
theorem ok__law_whole (T : Tx K mg) (d__law_take : Ok P w K mg base 2 "_law_take" ["_law_store_here", "_law_many_here"] spTake)  : Ok P w K mg base 3 "_law_whole" ["_law_store_here", "_law_reach"] spWhole := by
  obtain ⟨fd, F⟩ := T.f__law_whole
  have sc := sc__law_whole
  refine okFN (F := F) T.g__law_whole F.kp (F.bindsN fun _ _ _ _ _ _ us hl => match us, hl with | [_, _], _ => rfl) sc sp2_len (fun cdv A outer s H vs Q E hr h => ?_)
  obtain ⟨u, v, rfl, h⟩ := h
  refine ⟨_, (pss_cons (ps_set (i := 2) sc.nd rfl (Or.inl rfl) (pe_f d__law_take (hr.mono (by decide)) rfl passL (pa_cons (pv 0) (pa_cons pe_int pa_nil))))
      (pss_cons (ps_if (pt_cmpR op_lt (pv 2) pe_int (nomark _)) (pss_one (ps_ret (pe_ix ix_list (pe_lst (pa_cons pe_int (pa_cons (pe_callB (call_min2 rfl) (by rfl) T.b_min (by decide +kernel) (pa_cons pe_int (pa_cons (pv 1) pa_nil))) (pa_cons (pe_un un_neg (pe_callB (call_min2 rfl) (by rfl) T.b_min (by decide +kernel) (pa_cons pe_int (pa_cons (pv 1) pa_nil)))) (pa_cons (pv 1) (pa_cons (pe_un un_neg (pv 1)) pa_nil)))))) (pv 2) (fun _ _ => rfl)))) pss_nil)
      (pss_one (ps_ret (pe_op op_sub (pe_f d__law_take (hr.mono (by decide)) rfl passL (pa_cons (pv 0) (pa_cons (pe_op op_add (pe_op op_mulW pe_int (pv 1)) pe_int) pa_nil))) (pv 1)))))), ?_⟩
  obtain ⟨st, c, r, rfl, rfl, hs, hc, r1, r2, h⟩ := h
  refine ⟨_, rfl, _, _, rfl, st, c, 12, rfl, rfl, hs, by omega, by decide, fun z H1 s1 hs1 z0 z1 => ?_⟩
  refine ⟨_, rfl, _, _, rfl, rfl, _, rfl, ifD (fun a => ?_) (fun a => ?_)⟩
  · have a : z < 5 := a
    refine ⟨_, rfl, _, _, rfl, _, rfl, _, _, rfl, _, rfl, _, rfl, _, rfl, _, rfl, line5, fun l hl => ?_⟩
    have fin : ∀ y, -r ≤ y → y ≤ r → Q (.int y) (upd H1 l (.lst [.int 0, .int (if r < 1 then r else 1), .int (-(if r < 1 then r else 1)), .int r, .int (-r)])) := fun y y0 y1 =>
      h y _ (s1.trans (SameS.of (same_new hl))) ((hs1.same (same_new hl)).le (by omega)) y0 y1
    have m1 : (if r < 1 then r else 1) = 1 := by rw [if_neg (by omega)]
    refine ⟨_, rfl, ?_⟩
    rcases five z0 a with rfl | rfl | rfl | rfl | rfl
    · exact ⟨l, _, _, _, rfl, rfl, SqL.of upd_same, at_0, fin 0 (by omega) (by omega)⟩
    · exact ⟨l, _, _, _, rfl, rfl, SqL.of upd_same, at_1, fin _ (by omega) (by omega)⟩
    · exact ⟨l, _, _, _, rfl, rfl, SqL.of upd_same, at_2, fin _ (by omega) (by omega)⟩
    · exact ⟨l, _, _, _, rfl, rfl, SqL.of upd_same, ga3, fin _ (by omega) (by omega)⟩
    · exact ⟨l, _, _, _, rfl, rfl, SqL.of upd_same, ga4, fin _ (by omega) (by omega)⟩
  · refine ⟨_, rfl, _, rfl, _, _, rfl, rfl, cmul (a := 2) (b := 10) (by decide) (by omega), _, _, rfl, rfl, _, _, rfl, st, c + 1, 2 * r + 1, rfl, rfl, hs1, by omega, by omega, fun y H2 s2 hs2 y0 y1 => ?_⟩
    exact ⟨_, rfl, _, _, rfl, rfl, h _ H2 (s1.trans s2) (hs2.le (by omega)) (by omega) (by omega)⟩
def spMany : Sp := sp2 fun s m H Q _ => ∃ (st : Addr) (c : Nat), s = .ref st ∧ m = .int 400 ∧ StoreOk H st c ∧ c ≤ 90000 ∧ ∀ z H', SameS st H H' → StoreOk H' st (c + 2) → 0 ≤ z → z ≤ 5000 → Q (.int z) H'
abbrev N__law_many : List Str := ["_law_store_here", "_law_limit", "_law_spot"]
theorem sc__law_many : FnScope N__law_many ["_law_store_here", "_law_limit"] (defScope S__law_many) := ⟨rfl, rfl, rfl, by decide +kernel, rfl, by decide +kernel, by decide +kernel⟩
theorem ok__law_many (T : Tx K mg) (d__law_take : Ok P w K mg base 2 "_law_take" ["_law_store_here", "_law_many_here"] spTake)  : Ok P w K mg base 3 "_law_many" ["_law_store_here", "_law_limit"] spMany := by
  obtain ⟨fd, F⟩ := T.f__law_many
  have sc := sc__law_many
  refine okFN (F := F) T.g__law_many F.kp (F.bindsN fun _ _ _ _ _ _ us hl => match us, hl with | [_, _], _ => rfl) sc sp2_len (fun cdv A outer s H vs Q E hr h => ?_)
  obtain ⟨u, v, rfl, h⟩ := h
  refine ⟨_, (pss_cons (ps_set (i := 2) sc.nd rfl (Or.inl rfl) (pe_f d__law_take (hr.mono (by decide)) rfl passL (pa_cons (pv 0) (pa_cons pe_int pa_nil))))
      (pss_cons (ps_if (pt_cmpR op_lt (pv 2) pe_int (nomark _)) (pss_one (ps_ret (pe_op op_add (pv 1) (pv 2)))) pss_nil)
      (pss_cons (ps_if (pt_cmpR op_eq (pv 2) pe_int (nomark _)) (pss_one (ps_ret (pe_op op_add (pe_op op_add (pv 1) pe_int) (pe_f d__law_take (hr.mono (by decide)) rfl passL (pa_cons (pv 0) (pa_cons (pe_op op_mulW pe_int (pv 1)) pa_nil)))))) pss_nil)
      (pss_one (ps_ret (pe_callB (call_min2 rfl) (by rfl) T.b_min (by decide +kernel) (pa_cons (pv 1) (pa_cons (pe_f d__law_take (hr.mono (by decide)) rfl passL (pa_cons (pv 0) (pa_cons pe_int pa_nil))) pa_nil)))))))), ?_⟩
  obtain ⟨st, c, rfl, rfl, hs, hc, h⟩ := h
  refine ⟨_, rfl, _, _, rfl, st, c, 24, rfl, rfl, hs, by omega, by decide, fun z H1 s1 hs1 z0 z1 => ?_⟩
  refine ⟨_, rfl, _, _, rfl, rfl, _, rfl, ifD (fun a => ?_) (fun a => ?_)⟩
  · have a : z < 2 := a
    exact ⟨_, rfl, _, rfl, _, _, rfl, rfl, h _ H1 s1 (hs1.le (by omega)) (by omega) (by omega)⟩
  · refine ⟨_, rfl, rfl, _, rfl, ifEq (fun b => ?_) (fun b => ?_)⟩
    · refine ⟨_, rfl, _, _, rfl, rfl, _, rfl, _, rfl, _, _, rfl, rfl, cmul (a := 4) (b := 10) (by decide) (by decide), _, _, rfl, st, c + 1, 3600, rfl, rfl, hs1, by omega, by decide, fun y H2 s2 hs2 y0 y1 => ?_⟩
      exact ⟨_, _, rfl, rfl, h _ H2 (s1.trans s2) (hs2.le (by omega)) (by omega) (by omega)⟩
    · refine ⟨_, rfl, _, rfl, _, _, rfl, st, c + 1, 9, rfl, rfl, hs1, by omega, by decide, fun y H2 s2 hs2 y0 y1 => ?_⟩
      refine ⟨_, _, rfl, h _ H2 (s1.trans s2) (hs2.le (by omega)) ?_ ?_⟩ <;> split <;> omega
end
end Wk
set_option maxHeartbeats 4000000
namespace Wk
open PySem PySem.Spec PyProof.Rows L2
/-! ### drawn fractions -/
theorem divInt_mul {n b : Int} (hb : 0 < b) : Rat.divInt n b * (b : Rat) = (n : Rat) := by
  have hbz : (b : Rat) ≠ 0 := by
    intro e
    have := Rat.intCast_inj.mp (e.trans (Rat.intCast_zero).symm)
    omega
  rw [Rat.divInt_eq_div]
  exact Rat.div_mul_cancel hbz
theorem divInt_lt1 {n b : Int} (hb : 0 < b) (h : n < b) : Rat.divInt n b < 1 := by
  have hp : (0 : Rat) < (b : Rat) := by have := Rat.intCast_lt_intCast.mpr hb; exact_mod_cast this
  refine Rat.not_le.mp fun z => ?_
  have e := divInt_mul (n := n) hb
  have a : 1 * (b : Rat) ≤ Rat.divInt n b * (b : Rat) := Rat.mul_le_mul_of_nonneg_right z (Rat.le_of_lt hp)
  rw [e, Rat.one_mul] at a
  have := Rat.intCast_le_intCast.mp a
  omega
theorem divInt_nn {n b : Int} (hb : 0 < b) (h : 0 ≤ n) : 0 ≤ Rat.divInt n b := (Rat.divInt_nonneg_iff_of_pos_right hb).mpr h
theorem dvd12 {b : Nat} (h1 : 1 ≤ b) (h2 : b ≤ 12) : b ∣ 27720 := by
  have : b = 1 ∨ b = 2 ∨ b = 3 ∨ b = 4 ∨ b = 5 ∨ b = 6 ∨ b = 7 ∨ b = 8 ∨ b = 9 ∨ b = 10 ∨ b = 11 ∨ b = 12 := by omega
  rcases this with rfl | rfl | rfl | rfl | rfl | rfl | rfl | rfl | rfl | rfl | rfl | rfl <;> decide
/-- a rate -/
def FracOk (x : Rat) : Prop := Sz 6 x ∧ RateN 110880 x
def PlaceOk (x : Rat) : Prop := Sz 4 x ∧ 0 ≤ x ∧ x < 1
theorem frac_div {n b : Int} (b1 : 1 ≤ b) (b2 : b ≤ 12) (h1 : -(4 * b) ≤ n) (h2 : n ≤ 4 * b) : FracOk (Rat.divInt n b) := by
  refine ⟨Sz.of_divInt (by omega) (by omega) (by omega), ?_⟩
  have e : ((b.toNat : Nat) : Int) = b := by omega
  have := RateN.of (b := b.toNat) (n := n) (k := 4) (by omega) (dvd12 (by omega) (by omega)) (by omega)
  rw [e] at this
  exact this
theorem place_div {n b : Int} (b1 : 1 ≤ b) (b2 : b ≤ 12) (h1 : 0 ≤ n) (h2 : n < b) : PlaceOk (Rat.divInt n b) :=
  ⟨Sz.of_divInt (by omega) (by omega) (by omega), divInt_nn (by omega) h1, divInt_lt1 (by omega) h2⟩
theorem frac_lit {x : Rat} (n : Int) (b : Int) (b1 : 1 ≤ b) (b2 : b ≤ 12) (h1 : -(4 * b) ≤ n) (h2 : n ≤ 4 * b) (e : x = Rat.divInt n b) : FracOk x := e ▸ frac_div b1 b2 h1 h2
section
variable {P : Program} {w : World} {K : PySem.W.Frag} {mg : Str → Option Value} {base : Heap}
theorem line3b {a b c : V} : ([a, b, c] : List V).length ≤ sizeLine := by show 3 ≤ sizeLine; decide
theorem three {z : Int} (h0 : 0 ≤ z) (h1 : z < 3) : z = 0 ∨ z = 1 ∨ z = 2 := by omega
theorem place_lit {x : Rat} (n : Int) (b : Int) (b1 : 1 ≤ b) (b2 : b ≤ 12) (h1 : 0 ≤ n) (h2 : n < b) (e : x = Rat.divInt n b) : PlaceOk x := e ▸ place_div b1 b2 h1 h2
/-- a drawn fraction: F of it, cost k -/
def spDraw (F : Rat → Prop) (k : Nat) : Sp := sp1 fun s H Q _ => ∃ (st : Addr) (c : Nat), s = .ref st ∧ StoreOk H st c ∧ c ≤ 80000 ∧ ∀ x p H', SameS st H H' → StoreOk H' st (c + k) → F x → H' p = some (frO x) → Q (.ref p) H'
theorem lit {a b : Int} {x : Rat} (h1 : x.num = a) (h2 : (x.den : Int) = b) : HO.tup [.int a, .int b] = frO x := by rw [← h1, ← h2]
abbrev N__law_frac : List Str := ["_law_store_here", "_law_spot", "_law_bottom"]
theorem sc__law_frac : FnScope N__law_frac ["_law_store_here"] (defScope S__law_frac) := ⟨rfl, rfl, rfl, by decide +kernel, rfl, by decide +kernel, by decide +kernel⟩
theorem ok__law_frac (T : Tx K mg) (d__law_lowest : Ok P w K mg base 2 "_law_lowest" ["_law_top", "_law_bottom"] spLawLow) (d__law_take : Ok P w K mg base 2 "_law_take" ["_law_store_here", "_law_many_here"] spTake)  : Ok P w K mg base 3 "_law_frac" ["_law_store_here"] (spDraw FracOk 3) := by
  obtain ⟨fd, F⟩ := T.f__law_frac
  have sc := sc__law_frac
  refine okFN (F := F) T.g__law_frac F.kp (F.bindsN fun _ _ _ _ _ _ us hl => match us, hl with | [_], _ => rfl) sc sp1_len (fun cdv A outer s H vs Q E hr h => ?_)
  obtain ⟨u, rfl, h⟩ := h
  refine ⟨_, (pss_cons (ps_set (i := 1) sc.nd rfl (Or.inl rfl) (pe_f d__law_take (hr.mono (by decide)) rfl passL (pa_cons (pv 0) (pa_cons pe_int pa_nil))))
      (pss_cons (ps_if (pt_cmpR op_lt (pv 1) pe_int (nomark _)) (pss_one (ps_ret (pe_ix ix_list (pe_lst (pa_cons (pe_tup (pa_cons pe_int (pa_cons pe_int pa_nil))) (pa_cons (pe_tup (pa_cons pe_int (pa_cons pe_int pa_nil))) (pa_cons (pe_tup (pa_cons (pe_un un_neg pe_int) (pa_cons pe_int pa_nil))) (pa_cons (pe_tup (pa_cons pe_int (pa_cons pe_int pa_nil))) (pa_cons (pe_tup (pa_cons (pe_un un_neg pe_int) (pa_cons pe_int pa_nil))) pa_nil)))))) (pv 1) (fun _ _ => rfl)))) pss_nil)
      (pss_cons (ps_set (i := 2) sc.nd rfl (Or.inl rfl) (pe_op op_add pe_int (pe_f d__law_take (hr.mono (by decide)) rfl passL (pa_cons (pv 0) (pa_cons pe_int pa_nil)))))
      (pss_one (ps_ret (pe_f d__law_lowest (hr.mono (by decide)) rfl passL (pa_cons (pe_op op_sub (pe_f d__law_take (hr.mono (by decide)) rfl passL (pa_cons (pv 0) (pa_cons (pe_op op_add (pe_op op_mulW pe_int (pv 2)) pe_int) pa_nil))) (pe_op op_mulW pe_int (pv 2))) (pa_cons (pv 2) pa_nil)))))))), ?_⟩
  obtain ⟨st, c, rfl, hs, hc, h⟩ := h
  refine ⟨_, rfl, _, _, rfl, st, c, 12, rfl, rfl, hs, by omega, by decide, fun z H1 s1 hs1 z0 z1 => ?_⟩
  refine ⟨_, rfl, _, _, rfl, rfl, _, rfl, ifD (fun a => ?_) (fun a => ?_)⟩
  · have a : z < 5 := a
    refine ⟨line2, fun p0 h0 => ⟨line2, fun p1 h1 => ⟨_, rfl, line2, fun p2 h2 => ⟨line2, fun p3 h3 => ⟨_, rfl, line2, fun p4 h4 => ⟨line5, fun l hl => ?_⟩⟩⟩⟩⟩⟩
    have t0 := same_new (o := .tup [.int 0, .int 1]) h0
    have t1 := Same.new (o := .tup [.int 1, .int 1]) t0 h1
    have t2 := Same.new (o := .tup [.int (-1), .int 1]) t1 h2
    have t3 := Same.new (o := .tup [.int 1, .int 2]) t2 h3
    have t4 := Same.new (o := .tup [.int (-1), .int 2]) t3 h4
    have t5 := Same.new (o := .lst [.ref p0, .ref p1, .ref p2, .ref p3, .ref p4]) t4 hl
    have fin : ∀ (x : Rat) p, FracOk x → upd (upd (upd (upd (upd (upd H1 p0 (.tup [.int 0, .int 1])) p1 (.tup [.int 1, .int 1])) p2 (.tup [.int (-1), .int 1])) p3 (.tup [.int 1, .int 2])) p4 (.tup [.int (-1), .int 2])) l (.lst [.ref p0, .ref p1, .ref p2, .ref p3, .ref p4]) p = some (frO x) → Q (.ref p) _ := fun x p hx hp =>
      h x p _ (s1.trans (SameS.of t5)) ((hs1.same t5).le (by omega)) hx hp
    refine ⟨_, rfl, ?_⟩
    rcases five z0 a with rfl | rfl | rfl | rfl | rfl
    · exact ⟨l, _, _, _, rfl, rfl, SqL.of upd_same, at_0, fin 0 p0 (frac_lit 0 1 (by decide) (by decide) (by decide) (by decide) (by decide)) (same_new hl _ _ (same_new h4 _ _ (same_new h3 _ _ (same_new h2 _ _ (same_new h1 _ _ upd_same)))))⟩
    · exact ⟨l, _, _, _, rfl, rfl, SqL.of upd_same, at_1, fin 1 p1 (frac_lit 1 1 (by decide) (by decide) (by decide) (by decide) (by decide)) (same_new hl _ _ (same_new h4 _ _ (same_new h3 _ _ (same_new h2 _ _ upd_same))))⟩
    · exact ⟨l, _, _, _, rfl, rfl, SqL.of upd_same, at_2, fin (-1) p2 (frac_lit (-1) 1 (by decide) (by decide) (by decide) (by decide) (by decide)) (same_new hl _ _ (same_new h4 _ _ (same_new h3 _ _ upd_same)))⟩
    · exact ⟨l, _, _, _, rfl, rfl, SqL.of upd_same, ga3, fin (Rat.divInt 1 2) p3 (frac_lit 1 2 (by decide) (by decide) (by decide) (by decide) rfl) (same_new hl _ _ (same_new h4 _ _ upd_same))⟩
    · exact ⟨l, _, _, _, rfl, rfl, SqL.of upd_same, ga4, fin (Rat.divInt (-1) 2) p4 (frac_lit (-1) 2 (by decide) (by decide) (by decide) (by decide) rfl) (same_new hl _ _ upd_same)⟩
  · refine ⟨_, rfl, _, _, rfl, st, c + 1, 12, rfl, rfl, hs1, by omega, by decide, fun y H2 s2 hs2 y0 y1 => ⟨_, _, rfl, rfl, ?_⟩⟩
    have y2 : y < 12 := by omega
    refine ⟨_, rfl, _, rfl, _, _, rfl, rfl, cmul (a := 4) (b := 10) (by decide) (by omega), _, _, rfl, rfl, _, _, rfl, st, c + 2, _, rfl, rfl, hs2, by omega, by omega, fun u H3 s3 hs3 u0 u1 => ?_⟩
    refine ⟨_, rfl, _, _, rfl, rfl, cmul (a := 4) (b := 10) (by decide) (by omega), _, _, rfl, rfl, _, rfl, _, _, rfl, _, _, rfl, rfl, Nat.lt_of_lt_of_le (show (1 + y).natAbs < 2 ^ 10 by omega) (Nat.pow_le_pow_right (by decide) (by decide)), fun p hp => ?_⟩
    exact h _ p _ (((s1.trans s2).trans s3).trans (SameS.of (same_new hp))) ((hs3.same (same_new hp)).le (by omega)) (frac_div (by omega) (by omega) (by omega) (by omega)) upd_same
abbrev N__law_place : List Str := ["_law_store_here", "_law_spot", "_law_bottom"]
theorem sc__law_place : FnScope N__law_place ["_law_store_here"] (defScope S__law_place) := ⟨rfl, rfl, rfl, by decide +kernel, rfl, by decide +kernel, by decide +kernel⟩
theorem ok__law_place (T : Tx K mg) (d__law_lowest : Ok P w K mg base 2 "_law_lowest" ["_law_top", "_law_bottom"] spLawLow) (d__law_take : Ok P w K mg base 2 "_law_take" ["_law_store_here", "_law_many_here"] spTake)  : Ok P w K mg base 3 "_law_place" ["_law_store_here"] (spDraw PlaceOk 3) := by
  obtain ⟨fd, F⟩ := T.f__law_place
  have sc := sc__law_place
  refine okFN (F := F) T.g__law_place F.kp (F.bindsN fun _ _ _ _ _ _ us hl => match us, hl with | [_], _ => rfl) sc sp1_len (fun cdv A outer s H vs Q E hr h => ?_)
  obtain ⟨u, rfl, h⟩ := h
  refine ⟨_, (pss_cons (ps_set (i := 1) sc.nd rfl (Or.inl rfl) (pe_f d__law_take (hr.mono (by decide)) rfl passL (pa_cons (pv 0) (pa_cons pe_int pa_nil))))
      (pss_cons (ps_if (pt_cmpR op_lt (pv 1) pe_int (nomark _)) (pss_one (ps_ret (pe_ix ix_list (pe_lst (pa_cons (pe_tup (pa_cons pe_int (pa_cons pe_int pa_nil))) (pa_cons (pe_tup (pa_cons pe_int (pa_cons pe_int pa_nil))) (pa_cons (pe_tup (pa_cons pe_int (pa_cons pe_int pa_nil))) pa_nil)))) (pv 1) (fun _ _ => rfl)))) pss_nil)
      (pss_cons (ps_set (i := 2) sc.nd rfl (Or.inl rfl) (pe_op op_add pe_int (pe_f d__law_take (hr.mono (by decide)) rfl passL (pa_cons (pv 0) (pa_cons pe_int pa_nil)))))
      (pss_one (ps_ret (pe_f d__law_lowest (hr.mono (by decide)) rfl passL (pa_cons (pe_f d__law_take (hr.mono (by decide)) rfl passL (pa_cons (pv 0) (pa_cons (pv 2) pa_nil))) (pa_cons (pv 2) pa_nil)))))))), ?_⟩
  obtain ⟨st, c, rfl, hs, hc, h⟩ := h
  refine ⟨_, rfl, _, _, rfl, st, c, 12, rfl, rfl, hs, by omega, by decide, fun z H1 s1 hs1 z0 z1 => ?_⟩
  refine ⟨_, rfl, _, _, rfl, rfl, _, rfl, ifD (fun a => ?_) (fun a => ?_)⟩
  · have a : z < 3 := a
    refine ⟨line2, fun p0 h0 => ⟨line2, fun p1 h1 => ⟨line2, fun p2 h2 => ⟨line3b, fun l hl => ?_⟩⟩⟩⟩
    have t0 := same_new (o := .tup [.int 0, .int 1]) h0
    have t1 := Same.new (o := .tup [.int 1, .int 2]) t0 h1
    have t2 := Same.new (o := .tup [.int 11, .int 12]) t1 h2
    have t5 := Same.new (o := .lst [.ref p0, .ref p1, .ref p2]) t2 hl
    have fin : ∀ (x : Rat) p, PlaceOk x → upd (upd (upd (upd H1 p0 (.tup [.int 0, .int 1])) p1 (.tup [.int 1, .int 2])) p2 (.tup [.int 11, .int 12])) l (.lst [.ref p0, .ref p1, .ref p2]) p = some (frO x) → Q (.ref p) _ := fun x p hx hp =>
      h x p _ (s1.trans (SameS.of t5)) ((hs1.same t5).le (by omega)) hx hp
    refine ⟨_, rfl, ?_⟩
    rcases three z0 a with rfl | rfl | rfl
    · exact ⟨l, _, _, _, rfl, rfl, SqL.of upd_same, at_0, fin 0 p0 (place_lit 0 1 (by decide) (by decide) (by decide) (by decide) (by decide)) (same_new hl _ _ (same_new h2 _ _ (same_new h1 _ _ upd_same)))⟩
    · exact ⟨l, _, _, _, rfl, rfl, SqL.of upd_same, at_1, fin (Rat.divInt 1 2) p1 (place_lit 1 2 (by decide) (by decide) (by decide) (by decide) rfl) (same_new hl _ _ (same_new h2 _ _ upd_same))⟩
    · exact ⟨l, _, _, _, rfl, rfl, SqL.of upd_same, at_2, fin (Rat.divInt 11 12) p2 (place_lit 11 12 (by decide) (by decide) (by decide) (by decide) rfl) (same_new hl _ _ upd_same)⟩
  · refine ⟨_, rfl, _, _, rfl, st, c + 1, 12, rfl, rfl, hs1, by omega, by decide, fun y H2 s2 hs2 y0 y1 => ⟨_, _, rfl, rfl, ?_⟩⟩
    have y2 : y < 12 := by omega
    refine ⟨_, rfl, _, rfl, _, _, rfl, st, c + 2, _, rfl, rfl, hs2, by omega, by omega, fun u H3 s3 hs3 u0 u1 => ?_⟩
    refine ⟨_, rfl, _, _, rfl, _, _, rfl, rfl, Nat.lt_of_lt_of_le (show (1 + y).natAbs < 2 ^ 10 by omega) (Nat.pow_le_pow_right (by decide) (by decide)), fun p hp => ?_⟩
    exact h _ p _ (((s1.trans s2).trans s3).trans (SameS.of (same_new hp))) ((hs3.same (same_new hp)).le (by omega)) (place_div (by omega) (by omega) (by omega) (by omega)) upd_same
def MomOk (x : Rat) : Prop := Sz 8 x
def spMom : Sp := sp2 fun s r H Q _ => ∃ (st : Addr) (c : Nat), s = .ref st ∧ r = .int 12 ∧ StoreOk H st c ∧ c ≤ 80000 ∧ ∀ x p H', SameS st H H' → StoreOk H' st (c + 4) → MomOk x → H' p = some (frO x) → Q (.ref p) H'
abbrev N__law_moment : List Str := ["_law_store_here", "_law_reach", "_law_spot", "_law_bottom"]
theorem sc__law_moment : FnScope N__law_moment ["_law_store_here", "_law_reach"] (defScope S__law_moment) := ⟨rfl, rfl, rfl, by decide +kernel, rfl, by decide +kernel, by decide +kernel⟩
theorem ok__law_moment (T : Tx K mg) (d__law_lowest : Ok P w K mg base 2 "_law_lowest" ["_law_top", "_law_bottom"] spLawLow) (d__law_take : Ok P w K mg base 2 "_law_take" ["_law_store_here", "_law_many_here"] spTake) (d__law_whole : Ok P w K mg base 3 "_law_whole" ["_law_store_here", "_law_reach"] spWhole)  : Ok P w K mg base 4 "_law_moment" ["_law_store_here", "_law_reach"] spMom := by
  obtain ⟨fd, F⟩ := T.f__law_moment
  have sc := sc__law_moment
  refine okFN (F := F) T.g__law_moment F.kp (F.bindsN fun _ _ _ _ _ _ us hl => match us, hl with | [_, _], _ => rfl) sc sp2_len (fun cdv A outer s H vs Q E hr h => ?_)
  obtain ⟨u, v, rfl, h⟩ := h
  refine ⟨_, (pss_cons (ps_set (i := 2) sc.nd rfl (Or.inl rfl) (pe_f d__law_take (hr.mono (by decide)) rfl passL (pa_cons (pv 0) (pa_cons pe_int pa_nil))))
      (pss_cons (ps_if (pt_cmpR op_lt (pv 2) pe_int (nomark _)) (pss_one (ps_ret (pe_tup (pa_cons (pe_f d__law_whole (hr.mono (by decide)) rfl passL (pa_cons (pv 0) (pa_cons (pv 1) pa_nil))) (pa_cons pe_int pa_nil))))) pss_nil)
      (pss_cons (ps_set (i := 3) sc.nd rfl (Or.inl rfl) (pe_op op_add pe_int (pe_f d__law_take (hr.mono (by decide)) rfl passL (pa_cons (pv 0) (pa_cons pe_int pa_nil)))))
      (pss_one (ps_ret (pe_f d__law_lowest (hr.mono (by decide)) rfl passL (pa_cons (pe_op op_sub (pe_f d__law_take (hr.mono (by decide)) rfl passL (pa_cons (pv 0) (pa_cons (pe_op op_add (pe_op op_mulW (pe_op op_mulW pe_int (pv 1)) (pv 3)) pe_int) pa_nil))) (pe_op op_mulW (pv 1) (pv 3))) (pa_cons (pv 3) pa_nil)))))))), ?_⟩
  obtain ⟨st, c, rfl, rfl, hs, hc, h⟩ := h
  refine ⟨_, rfl, _, _, rfl, st, c, 12, rfl, rfl, hs, by omega, by decide, fun z H1 s1 hs1 z0 z1 => ?_⟩
  refine ⟨_, rfl, _, _, rfl, rfl, _, rfl, ifD (fun a => ?_) (fun a => ?_)⟩
  · refine ⟨_, rfl, _, rfl, _, _, rfl, st, c + 1, 12, rfl, rfl, hs1, by omega, by decide, by decide, fun y H2 s2 hs2 y0 y1 => ⟨line2, fun p hp => ?_⟩⟩
    exact h (y : Rat) p _ ((s1.trans s2).trans (SameS.of (same_new hp))) ((hs2.same (same_new hp)).le (by omega)) (Sz.int (by omega) (by decide)) upd_same
  · refine ⟨_, rfl, _, _, rfl, st, c + 1, 12, rfl, rfl, hs1, by omega, by decide, fun y H2 s2 hs2 y0 y1 => ⟨_, _, rfl, rfl, ?_⟩⟩
    have y2 : y < 12 := by omega
    refine ⟨_, rfl, _, rfl, _, _, rfl, rfl, cmul (a := 4) (b := 10) (by decide) (by decide), _, rfl, _, _, rfl, rfl, cmul (a := 10) (b := 10) (by decide) (by omega), _, _, rfl, rfl, _, _, rfl, st, c + 2, _, rfl, rfl, hs2, by omega, by omega, fun u H3 s3 hs3 u0 u1 => ?_⟩
    refine ⟨_, rfl, _, rfl, _, _, rfl, rfl, cmul (a := 4) (b := 10) (by decide) (by omega), _, _, rfl, rfl, _, rfl, _, _, rfl, _, _, rfl, rfl, Nat.lt_of_lt_of_le (show (1 + y).natAbs < 2 ^ 10 by omega) (Nat.pow_le_pow_right (by decide) (by decide)), fun p hp => ?_⟩
    exact h _ p _ (((s1.trans s2).trans s3).trans (SameS.of (same_new hp))) ((hs3.same (same_new hp)).le (by omega)) (Sz.of_divInt (by omega) (by omega) (by omega)) upd_same
end
end Wk
set_option maxHeartbeats 4000000
namespace Wk
open PySem PySem.Spec PyProof.Rows L2
/-! ### pairs of fractions -/
def PairV (H : Hp) (v : V) (d : Rw) : Prop := ∃ t p q, v = .ref t ∧ H t = some (.tup [p, q]) ∧ FrV H p d.1 ∧ FrV H q d.2
theorem PairV.monoL {H H' : Hp} {v : V} {d : Rw} (h : PairV H v d) (s : SameL H H') : PairV H' v d := let ⟨t, p, q, e, a, b, c⟩ := h; ⟨t, p, q, e, s _ _ a (fun _ z => nomatch z), b.monoL s, c.monoL s⟩
theorem PairV.mono {H H' : Hp} {v : V} {d : Rw} (h : PairV H v d) (s : Same H H') : PairV H' v d := h.monoL (SameL.of s)
structure RowsF (H : Hp) (xs : List V) (ds : List Rw) : Prop where
  len : xs.length = ds.length
  at_ : ∀ (i : Nat) (x : V), xs[i]? = some x → ∃ d, ds[i]? = some d ∧ PairV H x d
theorem RowsF.monoL {H H' : Hp} {xs : List V} {ds : List Rw} (h : RowsF H xs ds) (s : SameL H H') : RowsF H' xs ds := ⟨h.len, fun i x e => let ⟨d, a, b⟩ := h.at_ i x e; ⟨d, a, b.monoL s⟩⟩
theorem RowsF.mono {H H' : Hp} {xs : List V} {ds : List Rw} (h : RowsF H xs ds) (s : Same H H') : RowsF H' xs ds := h.monoL (SameL.of s)
theorem RowsF.nil {H : Hp} : RowsF H [] [] := ⟨rfl, fun i x e => by cases e⟩
theorem RowsF.cons {H : Hp} {xs : List V} {ds : List Rw} {v : V} {d : Rw} (h : PairV H v d) (r : RowsF H xs ds) : RowsF H (v :: xs) (d :: ds) := ⟨by simp [r.len], fun i x e => by
  cases i with
  | zero => cases e; exact ⟨d, rfl, h⟩
  | succ i => exact r.at_ i x e⟩
theorem RowsF.snoc {H : Hp} {xs : List V} {ds : List Rw} {v : V} {d : Rw} (h : RowsF H xs ds) (hv : PairV H v d) : RowsF H (xs ++ [v]) (ds ++ [d]) := by
  refine ⟨by simp [h.len], fun i x e => ?_⟩
  by_cases c : i < xs.length
  · rw [List.getElem?_append_left c] at e
    obtain ⟨q, a, b⟩ := h.at_ i x e
    exact ⟨q, by rw [List.getElem?_append_left (by rw [← h.len]; exact c)]; exact a, b⟩
  · have : i = xs.length := by
      have := (List.getElem?_eq_some_iff.mp e).1
      simp at this
      omega
    subst this
    rw [List.getElem?_append_right (Nat.le_refl _)] at e
    simp at e
    subst e
    exact ⟨d, by rw [h.len, List.getElem?_append_right (Nat.le_refl _)]; simp, hv⟩
theorem FrX.nil {H : Hp} : FrX H [] [] := ⟨rfl, fun i x e => by cases e⟩
theorem FrX.cons {H : Hp} {xs : List V} {ds : List Rat} {v : V} {d : Rat} (h : FrV H v d) (r : FrX H xs ds) : FrX H (v :: xs) (d :: ds) := ⟨by simp [r.len], fun i x e => by
  cases i with
  | zero => cases e; exact ⟨d, rfl, h⟩
  | succ i => exact r.at_ i x e⟩
section
variable {P : Program} {w : World} {K : PySem.W.Frag} {mg : Str → Option Value} {base : Heap}
def SpanN (n : Nat) (a b : Rat) : Prop := a ≤ b ∧ Sz n a ∧ Sz n b
def spSpanRow : Sp := sp2 fun s r H Q _ => ∃ (st : Addr) (c : Nat), s = .ref st ∧ r = .int 3 ∧ StoreOk H st c ∧ c ≤ 70000 ∧ ∀ a b t H', SameS st H H' → StoreOk H' st (c + 8) → SpanN 40 a b → PairV H' (.ref t) (a, b) → Q (.ref t) H'
theorem le_add_nn {a x : Rat} (h : 0 ≤ x) : a ≤ a + x := by grind
theorem int_nn {z : Int} (h : 0 ≤ z) : (0 : Rat) ≤ (z : Rat) := Rat.intCast_nonneg.mpr h
abbrev N__law_span_row : List Str := ["_law_store_here", "_law_reach", "_law_first", "_law_spot", "_law_bottom"]
theorem sc__law_span_row : FnScope N__law_span_row ["_law_store_here", "_law_reach"] (defScope S__law_span_row) := ⟨rfl, rfl, rfl, by decide +kernel, rfl, by decide +kernel, by decide +kernel⟩
theorem ok__law_span_row (T : Tx K mg) (d__law_plus : Ok P w K mg base 3 "_law_plus" ["_law_left", "_law_right"] (spBinL (fun x y => x + y))) (d__law_lowest : Ok P w K mg base 2 "_law_lowest" ["_law_top", "_law_bottom"] spLawLow) (d__law_take : Ok P w K mg base 2 "_law_take" ["_law_store_here", "_law_many_here"] spTake) (d__law_moment : Ok P w K mg base 4 "_law_moment" ["_law_store_here", "_law_reach"] spMom)  : Ok P w K mg base 5 "_law_span_row" ["_law_store_here", "_law_reach"] spSpanRow := by
  obtain ⟨fd, F⟩ := T.f__law_span_row
  have sc := sc__law_span_row
  refine okFN (F := F) T.g__law_span_row F.kp (F.bindsN fun _ _ _ _ _ _ us hl => match us, hl with | [_, _], _ => rfl) sc sp2_len (fun cdv A outer s H vs Q E hr h => ?_)
  obtain ⟨u, v, rfl, h⟩ := h
  refine ⟨_, (pss_cons (ps_set (i := 2) sc.nd rfl (Or.inl rfl) (pe_f d__law_moment (hr.mono (by decide)) rfl passL (pa_cons (pv 0) (pa_cons pe_int pa_nil))))
      (pss_cons (ps_set (i := 3) sc.nd rfl (Or.inl rfl) (pe_f d__law_take (hr.mono (by decide)) rfl passL (pa_cons (pv 0) (pa_cons pe_int pa_nil))))
      (pss_cons (ps_if (pt_cmpR op_eq (pv 3) pe_int (nomark _)) (pss_one (ps_ret (pe_tup (pa_cons (pv 2) (pa_cons (pv 2) pa_nil))))) pss_nil)
      (pss_cons (ps_if (pt_cmpR op_eq (pv 3) pe_int (nomark _)) (pss_one (ps_ret (pe_tup (pa_cons (pv 2) (pa_cons (pe_f d__law_plus (hr.mono (by decide)) rfl passL (pa_cons (pv 2) (pa_cons (pe_tup (pa_cons (pe_op op_add pe_int (pe_f d__law_take (hr.mono (by decide)) rfl passL (pa_cons (pv 0) (pa_cons (pv 1) pa_nil)))) (pa_cons pe_int pa_nil))) pa_nil))) pa_nil))))) pss_nil)
      (pss_cons (ps_set (i := 4) sc.nd rfl (Or.inl rfl) (pe_op op_add pe_int (pe_f d__law_take (hr.mono (by decide)) rfl passL (pa_cons (pv 0) (pa_cons pe_int pa_nil)))))
      (pss_one (ps_ret (pe_tup (pa_cons (pv 2) (pa_cons (pe_f d__law_plus (hr.mono (by decide)) rfl passL (pa_cons (pv 2) (pa_cons (pe_f d__law_lowest (hr.mono (by decide)) rfl passL (pa_cons (pe_f d__law_take (hr.mono (by decide)) rfl passL (pa_cons (pv 0) (pa_cons (pe_op op_add (pe_op op_mulW (pv 1) (pv 4)) pe_int) pa_nil))) (pa_cons (pv 4) pa_nil))) pa_nil))) pa_nil)))))))))), ?_⟩
  obtain ⟨st, c, rfl, rfl, hs, hc, h⟩ := h
  refine ⟨_, rfl, _, _, rfl, st, c, rfl, rfl, hs, by omega, fun x p H1 s1 hs1 bx hp => ?_⟩
  have bx : Sz 8 x := bx
  refine ⟨_, rfl, _, _, rfl, st, c + 4, 4, rfl, rfl, hs1, by omega, by decide, fun z H2 s2 hs2 z0 z1 => ?_⟩
  have hp2 : FrV H2 (.ref p) x := FrV.monoL ⟨p, rfl, hp⟩ (s2.l hs1)
  have s12 := s1.trans s2
  refine ⟨_, rfl, rfl, _, rfl, ifEq (fun e => ?_) (fun e => ?_)⟩
  · refine ⟨_, rfl, _, rfl, line2, fun t ht => ?_⟩
    exact h x x t _ (s12.trans (SameS.of (same_new ht))) ((hs2.same (same_new ht)).le (by omega)) ⟨Rat.le_refl, bx.mono (by decide), bx.mono (by decide)⟩ ⟨t, _, _, rfl, upd_same, hp2.mono (same_new ht), hp2.mono (same_new ht)⟩
  · refine ⟨_, rfl, rfl, _, rfl, ifEq (fun e1 => ?_) (fun e1 => ?_)⟩
    · refine ⟨_, rfl, _, rfl, _, rfl, _, rfl, _, _, rfl, st, c + 5, 3, rfl, rfl, hs2, by omega, by decide, fun y H3 s3 hs3 y0 y1 => ?_⟩
      refine ⟨_, _, rfl, rfl, line2, fun q hq => ?_⟩
      have hp3 := hp2.monoL (s3.l hs2)
      have by_ : Sz 3 (((1 + y : Int)) : Rat) := Sz.int (by omega) (by decide)
      refine ⟨_, _, rfl, x, ((1 + y : Int) : Rat), hp3.mono (same_new hq), ⟨q, rfl, upd_same⟩, bx.mono (by decide), by_.mono (by decide), fun r hr => ⟨line2, fun t ht => ?_⟩⟩
      have m3 := Same.new (o := .tup [.ref p, .ref r]) (Same.new (o := frO (x + ((1 + y : Int) : Rat))) (same_new (o := frO ((1 + y : Int) : Rat)) hq) hr) ht
      exact h x (x + ((1 + y : Int) : Rat)) t _ ((s12.trans s3).trans (SameS.of m3)) ((hs3.same m3).le (by omega)) ⟨le_add_nn (int_nn (by omega)), bx.mono (by decide), (bx.add by_).mono (by decide)⟩ ⟨t, _, _, rfl, upd_same, hp3.mono m3, FrV.mono ⟨r, rfl, upd_same⟩ (same_new ht)⟩
    · refine ⟨_, rfl, _, _, rfl, st, c + 5, 12, rfl, rfl, hs2, by omega, by decide, fun y H3 s3 hs3 y0 y1 => ⟨_, _, rfl, rfl, ?_⟩⟩
      have y2 : y < 12 := by omega
      have hp3 := hp2.monoL (s3.l hs2)
      refine ⟨_, rfl, _, rfl, _, rfl, _, rfl, _, rfl, _, _, rfl, rfl, cmul (a := 2) (b := 10) (by decide) (by omega), _, _, rfl, rfl, _, _, rfl, st, c + 6, _, rfl, rfl, hs3, by omega, by omega, fun u H4 s4 hs4 u0 u1 => ?_⟩
      have hp4 := hp3.monoL (s4.l hs3)
      refine ⟨_, rfl, _, _, rfl, _, _, rfl, rfl, Nat.lt_of_lt_of_le (show (1 + y).natAbs < 2 ^ 10 by omega) (Nat.pow_le_pow_right (by decide) (by decide)), fun q hq => ?_⟩
      have by_ : Sz 8 (Rat.divInt u (1 + y)) := Sz.of_divInt (by omega) (by omega) (by omega)
      refine ⟨_, _, rfl, x, Rat.divInt u (1 + y), hp4.mono (same_new hq), ⟨q, rfl, upd_same⟩, bx.mono (by decide), by_.mono (by decide), fun r hr => ⟨line2, fun t ht => ?_⟩⟩
      have m3 := Same.new (o := .tup [.ref p, .ref r]) (Same.new (o := frO (x + Rat.divInt u (1 + y))) (same_new (o := frO (Rat.divInt u (1 + y))) hq) hr) ht
      exact h x (x + Rat.divInt u (1 + y)) t _ (((s12.trans s3).trans s4).trans (SameS.of m3)) ((hs4.same m3).le (by omega)) ⟨le_add_nn (divInt_nn (by omega) u0), bx.mono (by decide), (bx.add by_).mono (by decide)⟩ ⟨t, _, _, rfl, upd_same, hp4.mono m3, FrV.mono ⟨r, rfl, upd_same⟩ (same_new ht)⟩
def ShareOk (e : Rat) : Prop := Sz 4 e ∧ 0 ≤ e ∧ e ≤ 1
def spSpanOver : Sp := sp4 fun s f i m H Q _ => ∃ (st : Addr) (c : Nat) (x y : Rat) (k : Int), s = .ref st ∧ m = .int k ∧ StoreOk H st c ∧ c ≤ 70000 ∧ FrV H f x ∧ FrV H i y ∧ Sz 100 x ∧ Sz 100 y ∧ 0 < y ∧ 0 ≤ k ∧ k ≤ 5000 ∧ 0 ≤ x ∧ x < y ∧ y ≤ 27720 ∧
  ∀ a b t H', SameS st H H' → StoreOk H' st (c + 5) → SpanN 450 a b → -1000000000 ≤ a ∧ b ≤ 1000000000 → PairV H' (.ref t) (a, b) → Q (.ref t) H'
theorem le_mul_of {y a b : Rat} (hy : 0 < y) (h : a ≤ b) : y * a ≤ y * b := Rat.mul_le_mul_of_nonneg_left h (Rat.le_of_lt hy)
theorem add_le_add_l {a x y : Rat} (h : x ≤ y) : a + x ≤ a + y := by grind
theorem pk {H : Hp} {p : Addr} {a b : Int} (n : Int) (d : Int) (h : H p = some (.tup [.int a, .int b])) (e1 : (Rat.divInt n d).num = a) (e2 : ((Rat.divInt n d).den : Int) = b) : FrV H (.ref p) (Rat.divInt n d) := ⟨p, rfl, by rw [h, lit e1 e2]⟩
theorem ml {y a : Rat} {k : Int} (hy : 0 < y) (h : a ≤ (k : Rat)) : y * a ≤ y * (k : Rat) := le_mul_of hy h
theorem mi {y : Rat} {a b : Int} (hy : 0 < y) (h : a ≤ b) : y * (a : Rat) ≤ y * (b : Rat) := le_mul_of hy (Rat.intCast_le_intCast.mpr h)
theorem over_lo {x y e : Rat} {m : Int} (x0 : 0 ≤ x) (py : 0 < y) (y1 : y ≤ 27720) (m0 : -6 ≤ m) (e0 : 0 ≤ e) : -1000000000 ≤ x + y * (m : Rat) + y * e := by
  have a := mi py m0
  have b := Rat.mul_nonneg (Rat.le_of_lt py) e0
  have c : ((-6 : Int) : Rat) = -6 := by decide
  rw [c] at a
  grind
theorem over_lo2 {x y e : Rat} {m : Int} (x0 : 0 ≤ x) (py : 0 < y) (y1 : y ≤ 27720) (m0 : -6 ≤ m) (e1 : e ≤ 1) : -1000000000 ≤ x + y * (m : Rat) - y * e := by
  have a := mi py m0
  have b := le_mul_of py e1
  have c : ((-6 : Int) : Rat) = -6 := by decide
  rw [c] at a
  grind
theorem over_hi1 {x y e : Rat} {m : Int} (x1 : x < y) (py : 0 < y) (y1 : y ≤ 27720) (m1 : m ≤ 6) (e1 : e ≤ 1) : x + y * (m : Rat) + y * e ≤ 1000000000 := by
  have a := mi py m1
  have b := le_mul_of py e1
  have c : ((6 : Int) : Rat) = 6 := by decide
  rw [c] at a
  grind
theorem over_hi2 {x y e : Rat} {m k : Int} (x1 : x < y) (py : 0 < y) (y1 : y ≤ 27720) (m1 : m ≤ 6) (k1 : k ≤ 5000) (e1 : e ≤ 1) : x + y * (m : Rat) + y * (k : Rat) + y * e ≤ 1000000000 := by
  have a := mi py m1
  have a2 := mi py k1
  have b := le_mul_of py e1
  have c : ((6 : Int) : Rat) = 6 := by decide
  have c2 : ((5000 : Int) : Rat) = 5000 := by decide
  rw [c] at a
  rw [c2] at a2
  grind
abbrev N__law_span_over : List Str := ["_law_store_here", "_law_first", "_law_interval", "_law_many_here", "_law_begin", "_law_ends", "_law_last", "_law_shares", "_law_before"]
theorem sc__law_span_over : FnScope N__law_span_over ["_law_store_here", "_law_first", "_law_interval", "_law_many_here"] (defScope S__law_span_over) := ⟨rfl, rfl, rfl, by decide +kernel, rfl, by decide +kernel, by decide +kernel⟩
theorem ok__law_span_over (T : Tx K mg) (d__law_plus : Ok P w K mg base 3 "_law_plus" ["_law_left", "_law_right"] (spBinL (fun x y => x + y))) (d__law_times : Ok P w K mg base 3 "_law_times" ["_law_left", "_law_right"] (spBinL (fun x y => x * y))) (d__law_pick : Ok P w K mg base 3 "_law_pick" ["_law_store_here", "_law_row"] spPick) (d__law_minus : Ok P w K mg base 3 "_law_minus" ["_law_left", "_law_right"] (spBinL (fun x y => x - y))) (d__law_whole : Ok P w K mg base 3 "_law_whole" ["_law_store_here", "_law_reach"] spWhole)  : Ok P w K mg base 4 "_law_span_over" ["_law_store_here", "_law_first", "_law_interval", "_law_many_here"] spSpanOver := by
  obtain ⟨fd, F⟩ := T.f__law_span_over
  have sc := sc__law_span_over
  refine okFN (F := F) T.g__law_span_over F.kp (F.bindsN fun _ _ _ _ _ _ us hl => match us, hl with | [_, _, _, _], _ => rfl) sc sp4_len (fun cdv A outer s H vs Q E hr h => ?_)
  obtain ⟨u, v, z, z2, rfl, h⟩ := h
  refine ⟨_, (pss_cons (ps_set (i := 4) sc.nd rfl (Or.inl rfl) (pe_f d__law_plus (hr.mono (by decide)) rfl passL (pa_cons (pv 1) (pa_cons (pe_f d__law_times (hr.mono (by decide)) rfl passL (pa_cons (pv 2) (pa_cons (pe_tup (pa_cons (pe_f d__law_whole (hr.mono (by decide)) rfl passL (pa_cons (pv 0) (pa_cons pe_int pa_nil))) (pa_cons pe_int pa_nil))) pa_nil))) pa_nil))))
      (pss_cons (ps_if (pt_cmpR op_lt (pv 3) pe_int (nomark _)) (pss_cons (ps_set (i := 5) sc.nd rfl (Or.inl rfl) (pe_f d__law_pick (hr.mono (by decide)) rfl passL (pa_cons (pv 0) (pa_cons (pe_lst (pa_cons (pe_tup (pa_cons (pe_tup (pa_cons pe_int (pa_cons pe_int pa_nil))) (pa_cons (pe_tup (pa_cons pe_int (pa_cons pe_int pa_nil))) pa_nil))) (pa_cons (pe_tup (pa_cons (pe_tup (pa_cons pe_int (pa_cons pe_int pa_nil))) (pa_cons (pe_tup (pa_cons pe_int (pa_cons pe_int pa_nil))) pa_nil))) (pa_cons (pe_tup (pa_cons (pe_tup (pa_cons pe_int (pa_cons pe_int pa_nil))) (pa_cons (pe_tup (pa_cons pe_int (pa_cons pe_int pa_nil))) pa_nil))) pa_nil)))) pa_nil))))
      (pss_one (ps_ret (pe_tup (pa_cons (pe_f d__law_plus (hr.mono (by decide)) rfl passL (pa_cons (pv 4) (pa_cons (pe_f d__law_times (hr.mono (by decide)) rfl passL (pa_cons (pv 2) (pa_cons (pe_ix ix_tup (pv 5) pe_int (fun _ _ => rfl)) pa_nil))) pa_nil))) (pa_cons (pe_f d__law_plus (hr.mono (by decide)) rfl passL (pa_cons (pv 4) (pa_cons (pe_f d__law_times (hr.mono (by decide)) rfl passL (pa_cons (pv 2) (pa_cons (pe_ix ix_tup (pv 5) pe_int (fun _ _ => rfl)) pa_nil))) pa_nil))) pa_nil)))))) pss_nil)
      (pss_cons (ps_set (i := 6) sc.nd rfl (Or.inl rfl) (pe_f d__law_plus (hr.mono (by decide)) rfl passL (pa_cons (pv 4) (pa_cons (pe_f d__law_times (hr.mono (by decide)) rfl passL (pa_cons (pv 2) (pa_cons (pe_tup (pa_cons (pe_op op_sub (pv 3) pe_int) (pa_cons pe_int pa_nil))) pa_nil))) pa_nil))))
      (pss_cons (ps_set (i := 7) sc.nd rfl (Or.inl rfl) (pe_lst (pa_cons (pe_tup (pa_cons pe_int (pa_cons pe_int pa_nil))) (pa_cons (pe_tup (pa_cons pe_int (pa_cons pe_int pa_nil))) (pa_cons (pe_tup (pa_cons pe_int (pa_cons pe_int pa_nil))) (pa_cons (pe_tup (pa_cons pe_int (pa_cons pe_int pa_nil))) (pa_cons (pe_tup (pa_cons pe_int (pa_cons pe_int pa_nil))) pa_nil)))))))
      (pss_cons (ps_set (i := 8) sc.nd rfl (Or.inl rfl) (pe_f d__law_times (hr.mono (by decide)) rfl passL (pa_cons (pv 2) (pa_cons (pe_f d__law_pick (hr.mono (by decide)) rfl passL (pa_cons (pv 0) (pa_cons (pv 7) pa_nil))) pa_nil))))
      (pss_one (ps_ret (pe_tup (pa_cons (pe_f d__law_minus (hr.mono (by decide)) rfl passL (pa_cons (pv 4) (pa_cons (pv 8) pa_nil))) (pa_cons (pe_f d__law_plus (hr.mono (by decide)) rfl passL (pa_cons (pv 6) (pa_cons (pe_f d__law_times (hr.mono (by decide)) rfl passL (pa_cons (pv 2) (pa_cons (pe_f d__law_pick (hr.mono (by decide)) rfl passL (pa_cons (pv 0) (pa_cons (pv 7) pa_nil))) pa_nil))) pa_nil))) pa_nil)))))))))), ?_⟩
  obtain ⟨st, c, x, y, k, rfl, rfl, hs, hc, hx, hy, bx, by_, py, k0, k1, x0, x1, y1, h⟩ := h
  refine ⟨_, rfl, _, rfl, _, rfl, _, _, rfl, st, c, 6, rfl, rfl, hs, by omega, by decide, by decide, fun m H1 s1 hs1 mlo mhi => ⟨line2, fun p1 hp1 => ?_⟩⟩
  have bm : Sz 3 (m : Rat) := Sz.int (by omega) (by decide)
  have hx1 := (hx.monoL (s1.l hs)).mono (same_new (o := frO (m : Rat)) hp1)
  have hy1 := (hy.monoL (s1.l hs)).mono (same_new (o := frO (m : Rat)) hp1)
  refine ⟨_, _, rfl, y, (m : Rat), hy1, ⟨p1, rfl, upd_same⟩, by_.mono (by decide), bm.mono (by decide), fun p2 hp2 => ?_⟩
  have ymul := by_.mul bm
  refine ⟨_, _, rfl, x, y * (m : Rat), hx1.mono (same_new hp2), ⟨p2, rfl, upd_same⟩, bx.mono (by decide), ymul.mono (by decide), fun p3 hp3 => ?_⟩
  have bb := bx.add ymul
  have t3 := Same.new (o := frO (x + y * (m : Rat))) (Same.new (o := frO (y * (m : Rat))) (same_new (o := frO (m : Rat)) hp1) hp2) hp3
  have fB : FrV (upd (upd (upd H1 p1 (frO (m : Rat))) p2 (frO (y * (m : Rat)))) p3 (frO (x + y * (m : Rat)))) (.ref p3) (x + y * (m : Rat)) := ⟨p3, rfl, upd_same⟩
  have hs3 : StoreOk (upd (upd (upd H1 p1 (frO (m : Rat))) p2 (frO (y * (m : Rat)))) p3 (frO (x + y * (m : Rat)))) st (c + 2) := hs1.same t3
  have sm3 : SameS st H (upd (upd (upd H1 p1 (frO (m : Rat))) p2 (frO (y * (m : Rat)))) p3 (frO (x + y * (m : Rat)))) := s1.trans (SameS.of t3)
  have fy := hy.monoL (sm3.l hs)
  refine ⟨_, rfl, _, _, rfl, rfl, _, rfl, ifD (fun lt => ?_) (fun ge => ?_)⟩
  · refine ⟨_, rfl, line2, fun q1 h1 => ⟨line2, fun q2 h2 => ⟨line2, fun q3 h3 => ⟨line2, fun q4 h4 => ⟨line2, fun q5 h5 => ⟨line2, fun q6 h6 => ⟨line2, fun q7 h7 => ⟨line2, fun q8 h8 => ⟨line2, fun q9 h9 => ⟨line3b, fun l hl => ?_⟩⟩⟩⟩⟩⟩⟩⟩⟩⟩
    have S9 := same_new (o := .lst [.ref q3, .ref q6, .ref q9]) hl
    have S8 := Same.trans' (same_new h9) S9
    have S7 := Same.trans' (same_new h8) S8
    have S6 := Same.trans' (same_new h7) S7
    have S5 := Same.trans' (same_new h6) S6
    have S4 := Same.trans' (same_new h5) S5
    have S3 := Same.trans' (same_new h4) S4
    have S2 := Same.trans' (same_new h3) S3
    have S1 := Same.trans' (same_new h2) S2
    have S0 := Same.trans' (same_new h1) S1
    have P1 := pk 1 12 (S1 _ _ upd_same) rfl rfl
    have P2 := pk 11 12 (S2 _ _ upd_same) rfl rfl
    have P4 := pk 1 3 (S4 _ _ upd_same) rfl rfl
    have P5 := pk 1 2 (S5 _ _ upd_same) rfl rfl
    have P7 := pk 1 2 (S7 _ _ upd_same) rfl rfl
    have P8 := pk 1 2 (S8 _ _ upd_same) rfl rfl
    have RF := RowsF.cons (d := (Rat.divInt 1 12, Rat.divInt 11 12)) ⟨q3, _, _, rfl, S3 _ _ upd_same, P1, P2⟩ (RowsF.cons (d := (Rat.divInt 1 3, Rat.divInt 1 2)) ⟨q6, _, _, rfl, S6 _ _ upd_same, P4, P5⟩ (RowsF.cons (d := (Rat.divInt 1 2, Rat.divInt 1 2)) ⟨q9, _, _, rfl, S9 _ _ upd_same, P7, P8⟩ RowsF.nil))
    have hs4 := hs3.same S0
    refine ⟨_, _, rfl, st, c + 2, rfl, hs4, by omega, .inl ⟨l, _, rfl, upd_same, (hs3.same (Same.trans' (same_new h1) (Same.trans' (same_new h2) (Same.trans' (same_new h3) (Same.trans' (same_new h4) (Same.trans' (same_new h5) (Same.trans' (same_new h6) (Same.trans' (same_new h7) (Same.trans' (same_new h8) (same_new h9)))))))))).ne hl, by simp, by simp, fun i v H5 hi s5 hs5 => ?_⟩⟩
    obtain ⟨d, hd, t0, e0, e1, rfl, ht0, f0, f1⟩ := RF.at_ i v hi
    have ok : Sz 4 d.1 ∧ Sz 4 d.2 ∧ d.1 ≤ d.2 ∧ 0 ≤ d.1 ∧ d.2 ≤ 1 := by
      have := List.mem_of_getElem? hd
      simp only [List.mem_cons, List.not_mem_nil, or_false] at this
      rcases this with rfl | rfl | rfl
      · exact ⟨⟨by decide, by decide⟩, ⟨by decide, by decide⟩, by decide, by decide, by decide⟩
      · exact ⟨⟨by decide, by decide⟩, ⟨by decide, by decide⟩, by decide, by decide, by decide⟩
      · exact ⟨⟨by decide, by decide⟩, ⟨by decide, by decide⟩, by decide, by decide, by decide⟩
    have L5 := s5.l hs4
    have ht5 := L5 _ _ ht0 (fun _ z => nomatch z)
    have g0 := f0.monoL L5
    have g1 := f1.monoL L5
    have gB := (fB.mono S0).monoL L5
    have gy := (fy.mono S0).monoL L5
    have sm5 := (sm3.trans (SameS.of S0)).trans s5
    have b1 := by_.mul ok.1
    have b2 := by_.mul ok.2.1
    refine ⟨_, rfl, _, rfl, _, rfl, t0, _, _, _, rfl, rfl, SqT.of ht5, at_0, _, _, rfl, y, d.1, gy, g0, by_.mono (by decide), ok.1.mono (by decide), fun r1 hr1 => ?_⟩
    have m1 := same_new (o := frO (y * d.1)) hr1
    refine ⟨_, _, rfl, (x + y * (m : Rat)), y * d.1, gB.mono m1, ⟨r1, rfl, upd_same⟩, bb.mono (by decide), b1.mono (by decide), fun r2 hr2 => ?_⟩
    have m2 := Same.new (o := frO ((x + y * (m : Rat)) + y * d.1)) m1 hr2
    refine ⟨_, rfl, _, rfl, _, rfl, t0, _, _, _, rfl, rfl, SqT.of (m2 _ _ ht5), at_1, _, _, rfl, y, d.2, gy.mono m2, g1.mono m2, by_.mono (by decide), ok.2.1.mono (by decide), fun r3 hr3 => ?_⟩
    have m3 := Same.new (o := frO (y * d.2)) m2 hr3
    refine ⟨_, _, rfl, (x + y * (m : Rat)), y * d.2, gB.mono m3, ⟨r3, rfl, upd_same⟩, bb.mono (by decide), b2.mono (by decide), fun r4 hr4 => ⟨line2, fun t ht => ?_⟩⟩
    have m4 := Same.new (o := .tup [.ref r2, .ref r4]) (Same.new (o := frO ((x + y * (m : Rat)) + y * d.2)) m3 hr4) ht
    have z2 : FrV _ (.ref r2) ((x + y * (m : Rat)) + y * d.1) := FrV.mono ⟨r2, rfl, upd_same⟩ (Same.new (o := .tup [.ref r2, .ref r4]) (Same.new (o := frO ((x + y * (m : Rat)) + y * d.2)) (same_new (o := frO (y * d.2)) hr3) hr4) ht)
    exact h ((x + y * (m : Rat)) + y * d.1) ((x + y * (m : Rat)) + y * d.2) t _ (sm5.trans (SameS.of m4)) ((hs5.same m4).le (by omega)) ⟨add_le_add_l (le_mul_of py ok.2.2.1), (bb.add b1).mono (by decide), (bb.add b2).mono (by decide)⟩ ⟨over_lo x0 py y1 mlo ok.2.2.2.1, over_hi1 x1 py y1 mhi ok.2.2.2.2⟩ ⟨t, _, _, rfl, upd_same, z2, FrV.mono ⟨r4, rfl, upd_same⟩ (same_new ht)⟩
  · have k1' : 1 ≤ k := by have ge : ¬ k < 1 := ge; omega
    refine ⟨_, rfl, _, rfl, _, rfl, _, _, rfl, rfl, line2, fun p4 hp4 => ?_⟩
    have bk : Sz 13 ((k - 1 : Int) : Rat) := Sz.int (by omega) (by decide)
    have m1 := same_new (o := frO ((k - 1 : Int) : Rat)) hp4
    refine ⟨_, _, rfl, y, ((k - 1 : Int) : Rat), fy.mono m1, ⟨p4, rfl, upd_same⟩, by_.mono (by decide), bk.mono (by decide), fun p5 hp5 => ?_⟩
    have m2 := Same.new (o := frO (y * ((k - 1 : Int) : Rat))) m1 hp5
    have bl := by_.mul bk
    refine ⟨_, _, rfl, (x + y * (m : Rat)), y * ((k - 1 : Int) : Rat), fB.mono m2, ⟨p5, rfl, upd_same⟩, bb.mono (by decide), bl.mono (by decide), fun p6 hp6 => ?_⟩
    have m3 := Same.new (o := frO ((x + y * (m : Rat)) + y * ((k - 1 : Int) : Rat))) m2 hp6
    have bL := bb.add bl
    have hBL : (x + y * (m : Rat)) ≤ (x + y * (m : Rat)) + y * ((k - 1 : Int) : Rat) := le_add_nn (Rat.mul_nonneg (Rat.le_of_lt py) (int_nn (by omega)))
    have fL : FrV (upd (upd (upd (upd (upd (upd H1 p1 (frO (m : Rat))) p2 (frO (y * (m : Rat)))) p3 (frO (x + y * (m : Rat)))) p4 (frO ((k - 1 : Int) : Rat))) p5 (frO (y * ((k - 1 : Int) : Rat)))) p6 (frO ((x + y * (m : Rat)) + y * ((k - 1 : Int) : Rat)))) (.ref p6) ((x + y * (m : Rat)) + y * ((k - 1 : Int) : Rat)) := ⟨p6, rfl, upd_same⟩
    refine ⟨line2, fun q1 h1 => ⟨line2, fun q2 h2 => ⟨line2, fun q3 h3 => ⟨line2, fun q4 h4 => ⟨line2, fun q5 h5 => ⟨line5, fun l hl => ?_⟩⟩⟩⟩⟩⟩
    have S5 := same_new (o := .lst [.ref q1, .ref q2, .ref q3, .ref q4, .ref q5]) hl
    have S4 := Same.trans' (same_new h5) S5
    have S3 := Same.trans' (same_new h4) S4
    have S2 := Same.trans' (same_new h3) S3
    have S1 := Same.trans' (same_new h2) S2
    have S0 := Same.trans' (same_new h1) S1
    have P1 := pk 0 1 (S1 _ _ upd_same) rfl rfl
    have P2 := pk 0 1 (S2 _ _ upd_same) rfl rfl
    have P3 := pk 1 2 (S3 _ _ upd_same) rfl rfl
    have P4 := pk 1 12 (S4 _ _ upd_same) rfl rfl
    have P5 := pk 11 12 (S5 _ _ upd_same) rfl rfl
    have RF := FrX.cons P1 (FrX.cons P2 (FrX.cons P3 (FrX.cons P4 (FrX.cons P5 FrX.nil))))
    have okE : ∀ e ∈ [Rat.divInt 0 1, Rat.divInt 0 1, Rat.divInt 1 2, Rat.divInt 1 12, Rat.divInt 11 12], ShareOk e := by
      intro e he
      simp only [List.mem_cons, List.not_mem_nil, or_false] at he
      rcases he with rfl | rfl | rfl | rfl | rfl
      · exact ⟨⟨by decide, by decide⟩, by decide, by decide⟩
      · exact ⟨⟨by decide, by decide⟩, by decide, by decide⟩
      · exact ⟨⟨by decide, by decide⟩, by decide, by decide⟩
      · exact ⟨⟨by decide, by decide⟩, by decide, by decide⟩
      · exact ⟨⟨by decide, by decide⟩, by decide, by decide⟩
    have S03 := Same.trans' m3 S0
    have hs4 := hs3.same S03
    have sm4 := sm3.trans (SameS.of S03)
    have nl : l ≠ st := (hs3.same (Same.trans' m3 (Same.trans' (same_new h1) (Same.trans' (same_new h2) (Same.trans' (same_new h3) (Same.trans' (same_new h4) (same_new h5))))))).ne hl
    refine ⟨_, rfl, _, rfl, _, rfl, _, _, rfl, st, c + 2, rfl, hs4, by omega, .inl ⟨l, _, rfl, upd_same, nl, by simp, by simp, fun i v H5 hi s5 hs5 => ?_⟩⟩
    obtain ⟨e, he, fe⟩ := RF.at_ i v hi
    have oe := okE e (List.mem_of_getElem? he)
    have L5 := s5.l hs4
    have ge5 := fe.monoL L5
    have gB := ((fB.mono m3).mono S0).monoL L5
    have gy := ((fy.mono m3).mono S0).monoL L5
    have gL := (fL.mono S0).monoL L5
    have be := by_.mul oe.1
    refine ⟨_, _, rfl, y, e, gy, ge5, by_.mono (by decide), oe.1.mono (by decide), fun r1 hr1 => ?_⟩
    have n1 := same_new (o := frO (y * e)) hr1
    refine ⟨_, rfl, _, rfl, _, _, rfl, (x + y * (m : Rat)), y * e, gB.mono n1, ⟨r1, rfl, upd_same⟩, bb.mono (by decide), be.mono (by decide), fun r2 hr2 => ?_⟩
    have n2 := Same.new (o := frO ((x + y * (m : Rat)) - y * e)) n1 hr2
    have hl5 := s5.keep l _ nl upd_same
    have hs6 := hs5.same n2
    refine ⟨_, rfl, _, rfl, _, rfl, _, rfl, _, _, rfl, st, c + 3, rfl, hs6, by omega, .inl ⟨l, _, rfl, n2 _ _ hl5, nl, by simp, by simp, fun i' v' H7 hi' s7 hs7 => ?_⟩⟩
    obtain ⟨e', he', fe'⟩ := RF.at_ i' v' hi'
    have oe' := okE e' (List.mem_of_getElem? he')
    have L7 := s7.l hs6
    have be' := by_.mul oe'.1
    refine ⟨_, _, rfl, y, e', (gy.mono n2).monoL L7, ((fe'.monoL L5).mono n2).monoL L7, by_.mono (by decide), oe'.1.mono (by decide), fun r3 hr3 => ?_⟩
    have n3 := same_new (o := frO (y * e')) hr3
    refine ⟨_, _, rfl, ((x + y * (m : Rat)) + y * ((k - 1 : Int) : Rat)), y * e', ((gL.mono n2).monoL L7).mono n3, ⟨r3, rfl, upd_same⟩, bL.mono (by decide), be'.mono (by decide), fun r4 hr4 => ⟨line2, fun t ht => ?_⟩⟩
    have n5 := Same.new (o := .tup [.ref r2, .ref r4]) (Same.new (o := frO (((x + y * (m : Rat)) + y * ((k - 1 : Int) : Rat)) + y * e')) n3 hr4) ht
    have z2 : FrV (upd (upd H5 r1 (frO (y * e))) r2 (frO ((x + y * (m : Rat)) - y * e))) (.ref r2) ((x + y * (m : Rat)) - y * e) := ⟨r2, rfl, upd_same⟩
    have le1 : (x + y * (m : Rat)) - y * e ≤ ((x + y * (m : Rat)) + y * ((k - 1 : Int) : Rat)) + y * e' := by
      have a1 := Rat.mul_nonneg (Rat.le_of_lt py) oe.2.1
      have a2 := Rat.mul_nonneg (Rat.le_of_lt py) oe'.2.1
      grind
    exact h ((x + y * (m : Rat)) - y * e) (((x + y * (m : Rat)) + y * ((k - 1 : Int) : Rat)) + y * e') t _ ((((sm4.trans s5).trans (SameS.of n2)).trans s7).trans (SameS.of n5)) ((hs7.same n5).le (by omega)) ⟨le1, (bb.sub be).mono (by decide), (bL.add be').mono (by decide)⟩ ⟨over_lo2 x0 py y1 mlo oe.2.2, over_hi2 x1 py y1 mhi (by omega) oe'.2.2⟩ ⟨t, _, _, rfl, upd_same, (z2.monoL L7).mono n5, FrV.mono ⟨r4, rfl, upd_same⟩ (same_new ht)⟩
end
end Wk
set_option maxHeartbeats 4000000
namespace Wk
open PySem PySem.Spec PyProof.Rows L2
section
variable {P : Program} {w : World} {K : PySem.W.Frag} {mg : Str → Option Value} {base : Heap}
/-! ### rows that are drawn -/
def RowOk (d : Rw) : Prop := FracOk d.1 ∧ Sz 19 d.2 ∧ 0 ≤ d.2 ∧ d.2 < 1
/-- a list of the law's own: fresh since H0, told apart from the store -/
structure OwnL (H0 H : Hp) (st l : Addr) : Prop where
  new : H0 l = none
  ne : l ≠ st
  cl : NotCl H st l
theorem OwnL.s {H0 H H' : Hp} {st l : Addr} {c : Nat} (o : OwnL H0 H st l) (h : StoreOk H st c) (s : SameS st H H') : OwnL H0 H' st l := ⟨o.new, o.ne, o.cl.s h s⟩
def RowsD (ds : List Rw) : Prop := 2 ≤ ds.length ∧ ds.length ≤ 6 ∧ ∀ d ∈ ds, RowOk d
def spMet : Sp := sp1 fun s H Q _ => ∃ (st : Addr) (c : Nat), s = .ref st ∧ StoreOk H st c ∧ c ≤ 60000 ∧
  ∀ l xs ds t p x H', SameS st H H' → StoreOk H' st (c + 60) → OwnL H H' st l → H' l = some (.lst xs) → RowsF H' xs ds → RowsD ds → H' p = some (frO x) → MomOk x → H' t = some (.tup [.ref l, .ref p]) → Q (.ref t) H'
theorem ifAndF {A B : Prop} (h : B) : if (false : Bool) = true then A else B := by simpa using h
abbrev N__law_met : List Str := ["_law_store_here", "_law_moment_here", "_law_place_here", "_law_rows", "_law_k", "_law_rate"]
theorem sc__law_met : FnScope N__law_met ["_law_store_here"] (defScope S__law_met) := ⟨rfl, rfl, rfl, by decide +kernel, rfl, by decide +kernel, by decide +kernel⟩
theorem ok__law_met (T : Tx K mg) (d__law_size : Ok P w K mg base 3 "_law_size" ["_law_store_here", "_law_top"] spSize) (d__law_part : Ok P w K mg base 3 "_law_part" ["_law_value"] spPartL) (d__law_minus : Ok P w K mg base 3 "_law_minus" ["_law_left", "_law_right"] (spBinL (fun x y => x - y))) (d__law_times : Ok P w K mg base 3 "_law_times" ["_law_left", "_law_right"] (spBinL (fun x y => x * y))) (d__law_take : Ok P w K mg base 2 "_law_take" ["_law_store_here", "_law_many_here"] spTake) (d__law_pick : Ok P w K mg base 3 "_law_pick" ["_law_store_here", "_law_row"] spPick) (d__law_frac : Ok P w K mg base 3 "_law_frac" ["_law_store_here"] (spDraw FracOk 3)) (d__law_place : Ok P w K mg base 3 "_law_place" ["_law_store_here"] (spDraw PlaceOk 3)) (d__law_moment : Ok P w K mg base 4 "_law_moment" ["_law_store_here", "_law_reach"] spMom)  : Ok P w K mg base 5 "_law_met" ["_law_store_here"] spMet := by
  obtain ⟨fd, F⟩ := T.f__law_met
  have sc := sc__law_met
  refine okFN (F := F) T.g__law_met F.kp (F.bindsN fun _ _ _ _ _ _ us hl => match us, hl with | [_], _ => rfl) sc sp1_len (fun cdv A outer s H vs Q E hr h => ?_)
  obtain ⟨u, rfl, h⟩ := h
  refine ⟨_, (pss_cons (ps_set (i := 1) sc.nd rfl (Or.inl rfl) (pe_f d__law_moment (hr.mono (by decide)) rfl passL (pa_cons (pv 0) (pa_cons pe_int pa_nil))))
      (pss_cons (ps_set (i := 2) sc.nd rfl (Or.inl rfl) (pe_f d__law_place (hr.mono (by decide)) rfl passL (pa_cons (pv 0) pa_nil)))
      (pss_cons (ps_set (i := 3) sc.nd rfl (Or.inl rfl) (pe_lst pa_nil))
      (pss_cons (ps_for PassesOwn.never rfl (pi_range1 (by rfl) T.b_range (pa_cons (pe_op op_add pe_int (pe_f d__law_size (hr.mono (by decide)) rfl passL (pa_cons (pv 0) (pa_cons pe_int pa_nil)))) pa_nil)) (pg_name (i := 4) sc.nd rfl (Or.inl rfl)) (pss_cons (ps_set (i := 5) sc.nd rfl (Or.inl rfl) (pe_f d__law_frac (hr.mono (by decide)) rfl passL (pa_cons (pv 0) pa_nil)))
      (pss_cons (ps_if (PW.pt (pw_and (pt_truth (pv 3) (by intro _; rfl)) (pw_and1 (pt_cmpR op_eq (pe_f d__law_take (hr.mono (by decide)) rfl passL (pa_cons (pv 0) (pa_cons pe_int pa_nil))) pe_int (nomark _))))) (pss_one (ps_set (i := 5) sc.nd rfl (Or.inl rfl) (pe_ix ix_tup (pe_f d__law_pick (hr.mono (by decide)) rfl passL (pa_cons (pv 0) (pa_cons (pv 3) pa_nil))) pe_int (fun _ _ => rfl)))) pss_nil)
      (pss_one (ps_expr (pe_bm PySem.F.plainAttrs_list PySem.F.slot_list_append PySem.F.type_list_append mt_append (pv 3) (pa_cons (pe_tup (pa_cons (pv 5) (pa_cons (pe_f d__law_part (hr.mono (by decide)) rfl passL (pa_cons (pe_f d__law_minus (hr.mono (by decide)) rfl passL (pa_cons (pv 2) (pa_cons (pe_f d__law_times (hr.mono (by decide)) rfl passL (pa_cons (pv 5) (pa_cons (pv 1) pa_nil))) pa_nil))) pa_nil)) pa_nil))) pa_nil)))))))
      (pss_one (ps_ret (pe_tup (pa_cons (pv 3) (pa_cons (pv 1) pa_nil))))))))), ?_⟩
  obtain ⟨st, c, rfl, hs, hc, h⟩ := h
  refine ⟨_, rfl, _, _, rfl, st, c, rfl, rfl, hs, by omega, fun x p H1 s1 hs1 bx hp => ?_⟩
  have bx : Sz 8 x := bx
  refine ⟨_, rfl, _, rfl, st, c + 4, rfl, hs1, by omega, fun y q H2 s2 hs2 by_ hq => ?_⟩
  have hp2 : FrV H2 (.ref p) x := FrV.monoL ⟨p, rfl, hp⟩ (s2.l hs1)
  have s12 := s1.trans s2
  refine ⟨by decide, fun l hl => ?_⟩
  have t3 := same_new (o := .lst []) hl
  have nl := hs2.ne hl
  have l0 : H l = none := s12.at_none nl hl
  have nc := (NotCl.of hs2 hl).s hs2 (SameS.of (st := st) t3)
  have hs3 := hs2.same t3
  refine ⟨_, rfl, _, _, rfl, st, c + 7, rfl, rfl, hs3, by omega, fun z H4 s4 hs4 z0 z1 => ⟨_, _, rfl, rfl, _, rfl, by omega, by omega, ?_⟩⟩
  have s04 := (s12.trans (SameS.of t3)).trans s4
  have hl4 := s4.keep _ _ nl upd_same
  refine for_range (fun i σ H' => ∃ (xs : List V) (ds : List Rw) (o4 o5 : Option V), σ = [some (.ref st), some (.ref p), some (.ref q), some (.ref l), o4, o5] ∧ SameS st H H' ∧ StoreOk H' st (c + 10 + 5 * i) ∧ NotCl H' st l ∧ H' l = some (.lst xs) ∧ RowsF H' xs ds ∧ ds.length = i ∧ (∀ d ∈ ds, RowOk d) ∧ FrV H' (.ref p) x ∧ FrV H' (.ref q) y) ?_ ?_ ?_
  · exact ⟨[], [], _, _, rfl, s04, hs4, nc.s hs3 s4, hl4, RowsF.nil, rfl, by simp, (hp2.mono t3).monoL (s4.l hs3), (FrV.mono ⟨q, rfl, hq⟩ t3).monoL (s4.l hs3)⟩
  · rintro i σ H5 hi ⟨xs, ds, o4, o5, rfl, s5, hs5, nc5, hl5, hx, hd, hok, fp, fq⟩
    have hi6 : i < 6 := by omega
    refine ⟨_, rfl, _, rfl, st, c + 10 + 5 * i, rfl, hs5, by omega, fun r rp H6 s6 hs6 fr6 hr6 => ?_⟩
    have hl6 := s6.keep _ _ nl hl5
    have hx6 := hx.monoL (s6.l hs5)
    dsimp only
    refine seq_intro (fun σ' H' => ∃ (rv : V) (r : Rat), σ' = [some (.ref st), some (.ref p), some (.ref q), some (.ref l), some (.int (0 + (i : Int))), some rv] ∧ SameS st H6 H' ∧ StoreOk H' st (c + 10 + 5 * i + 5) ∧ FracOk r ∧ FrV H' rv r) (fun R hR => ?_) ?_
    · refine ⟨_, rfl, !xs.isEmpty, .inl ⟨xs, SqL.of hl6, rfl⟩, ?_⟩
      cases hxe : xs with
      | nil =>
        subst hxe
        exact iteF (iteF (hR _ _ ⟨_, r, rfl, SameS.rfl', hs6.le (by omega), fr6, rp, rfl, hr6⟩))
      | cons v vs =>
        rw [← hxe]
        have : (!xs.isEmpty) = true := by rw [hxe]; rfl
        rw [this]
        refine iteT ?_
        have xl := hx.len
        have xl1 : 0 < xs.length := by rw [hxe]; simp
        refine ⟨_, rfl, _, _, rfl, st, _, 5, rfl, rfl, hs6, by omega, by decide, fun u H7 s7 hs7 u0 u1 => ?_⟩
        refine ⟨rfl, _, rfl, ifEq (fun _ => ?_) (fun _ => hR _ _ ⟨_, r, rfl, s7, hs7.le (by omega), fr6, FrV.monoL ⟨rp, rfl, hr6⟩ (s7.l hs6)⟩)⟩
        refine ⟨_, rfl, _, rfl, _, _, rfl, st, _, rfl, hs7, by omega, .inl ⟨l, xs, rfl, s7.keep _ _ nl hl6, nl, xl1, by omega, fun k v H8 hk s8 hs8 => ?_⟩⟩
        obtain ⟨d, hdk, t, p0, q0, rfl, ht, f0, f1⟩ := hx6.at_ k v hk
        have L8 := (s7.l hs6).trans (s8.l hs7)
        have ht8 := L8 _ _ ht (fun _ z => nomatch z)
        exact ⟨t, _, _, _, rfl, rfl, SqT.of ht8, at_0, hR _ _ ⟨_, d.1, rfl, s7.trans s8, hs8.le (by omega), (hok d (List.mem_of_getElem? hdk)).1, f0.monoL L8⟩⟩
    · rintro σ' H7 ⟨rv, r, rfl, s7, hs7, okr, fr7⟩
      have s67 := s6.trans s7
      have L := s67.l hs5
      have fp7 := fp.monoL L
      have fq7 := fq.monoL L
      refine ⟨_, rfl, tyL (s67.keep _ _ nl hl5), _, rfl, _, rfl, _, rfl, _, rfl, _, _, rfl, r, x, fr7, fp7, okr.1.mono (by decide), bx.mono (by decide), fun r1 hr1 => ?_⟩
      have n1 := same_new (o := frO (r * x)) hr1
      have bm := okr.1.mul bx
      refine ⟨_, _, rfl, y, r * x, fq7.mono n1, ⟨r1, rfl, upd_same⟩, by_.1.mono (by decide), bm.mono (by decide), fun r2 hr2 => ?_⟩
      have n2 := Same.new (o := frO (y - r * x)) n1 hr2
      have bd := by_.1.sub bm
      refine ⟨_, rfl, y - r * x, ⟨r2, rfl, upd_same⟩, bd.mono (by decide), fun r3 hr3 => ⟨line2, fun t ht => ?_⟩⟩
      have n4 := Same.new (o := .tup [rv, .ref r3]) (Same.new (o := frO (fr (y - r * x))) n2 hr3) ht
      have hl7 := n4 _ _ (s67.keep _ _ nl hl5)
      have xl := hx.len
      refine ⟨l, xs, _, rfl, rfl, hl7, Nat.lt_of_le_of_lt (show xs.length ≤ 6 by omega) (show 6 < sizeLine by decide), ?_⟩
      have SL := SameL.upd (ys := xs ++ [.ref t]) hl7
      have s8 := s67.trans (SameS.of n4)
      have hs8 := hs7.same n4
      have nc8 := nc5.s hs5 s8
      have pv_ : PairV (upd (upd (upd (upd (upd H7 r1 (frO (r * x))) r2 (frO (y - r * x))) r3 (frO (fr (y - r * x)))) t (.tup [rv, .ref r3])) l (.lst (xs ++ [.ref t]))) (.ref t) (r, fr (y - r * x)) :=
        PairV.monoL ⟨t, _, _, rfl, upd_same, fr7.mono n4, FrV.mono ⟨r3, rfl, upd_same⟩ (same_new ht)⟩ SL
      refine ⟨xs ++ [.ref t], ds ++ [(r, fr (y - r * x))], _, _, rfl, (s5.trans s8).own l0 nl, hs8.own nl nc8, nc8.upd nl, upd_same, (((hx.monoL L).mono n4).monoL SL).snoc pv_, by simp [hd], fun d hd' => ?_, (fp7.mono n4).monoL SL, (fq7.mono n4).monoL SL⟩
      rcases List.mem_append.mp hd' with w | w
      · exact hok d w
      · rw [List.mem_singleton.mp w]
        exact ⟨okr, (bd.fr).mono (by decide), fr_nn _, fr_lt _⟩
  · rintro σ H5 ⟨xs, ds, o4, o5, rfl, s5, hs5, nc5, hl5, hx, hd, hok, fp, fq⟩
    refine ⟨_, rfl, _, rfl, line2, fun t ht => ?_⟩
    obtain ⟨p', ep, fp'⟩ := fp
    cases ep
    have n1 := same_new (o := .tup [.ref l, .ref p]) ht
    exact h l xs ds t p x _ (s5.trans (SameS.of n1)) ((hs5.same n1).le (by omega)) ⟨l0, nl, nc5.s hs5 (SameS.of n1)⟩ (n1 _ _ hl5) (hx.mono n1) ⟨by omega, by omega, hok⟩ (n1 _ _ fp') bx upd_same
end
end Wk
set_option maxHeartbeats 4000000
namespace Wk
open PySem PySem.Spec PyProof.Rows L2
section
variable {P : Program} {w : World} {K : PySem.W.Frag} {mg : Str → Option Value} {base : Heap}
section
variable {g : TG} {te : TE} {vs : List Nat} {σ : L2.St} {H1 : Hp} {D : Addr} {Qd : Hp → Prop}
theorem lc_listY {K : PySem.W.Frag} {a : Addr} {xs : List V} (Pv : Nat → Hp → Prop) (h0 : Pv 0 (upd H1 D (.lst []))) (hl : ∀ i H, i ≤ xs.length → Pv i H → SqL K H a xs)
    (hs : ∀ i x H, xs[i]? = some x → Pv i H → g x (wipe σ vs) H fun σ2 H2 => wipe σ2 vs = wipe σ vs ∧ te σ2 H2 fun y H4 => ∃ acc, H4 D = some (.lst acc) ∧ acc.length < sizeLine ∧ Pv (i + 1) (upd H4 D (.lst (acc ++ [y])))) (hd : ∀ H, Pv xs.length H → Qd H) :
    ∃ W : Nat → Nat → Hp → Prop, (∃ m, W 0 m (upd H1 D (.lst []))) ∧ ∀ i m H, W i m H →
      ((Itl K a).stop i H ∧ Qd H) ∨ ((Itl K a).go i H ∧ ∃ Nx : Hp → Prop, (∀ H', Nx H' → ∃ m', m' < m ∧ W (i + 1) m' H') ∧ ∀ x H', (Itl K a).yld i H x H' → g x (wipe σ vs) H' fun σ2 H2 => wipe σ2 vs = wipe σ vs ∧ tYes σ2 H2 fun b H3 =>
        if b = true then te σ2 H3 fun y H4 => ∃ acc, H4 D = some (.lst acc) ∧ acc.length < sizeLine ∧ Nx (upd H4 D (.lst (acc ++ [y]))) else Nx H3) :=
  lc_list Pv h0 hl (fun i x H hi p => by have := hs i x H hi p; simpa only [tYes, if_true] using this) hd
theorem lc_rangeY {lo : Int} {n : Nat} (Pv : Nat → Hp → Prop) (h0 : Pv 0 (upd H1 D (.lst [])))
    (hs : ∀ i H, i < n → Pv i H → g (.int (lo + i)) (wipe σ vs) H fun σ2 H2 => wipe σ2 vs = wipe σ vs ∧ te σ2 H2 fun y H4 => ∃ acc, H4 D = some (.lst acc) ∧ acc.length < sizeLine ∧ Pv (i + 1) (upd H4 D (.lst (acc ++ [y])))) (hd : ∀ H, Pv n H → Qd H) :
    ∃ W : Nat → Nat → Hp → Prop, (∃ m, W 0 m (upd H1 D (.lst []))) ∧ ∀ i m H, W i m H →
      ((Itr lo n).stop i H ∧ Qd H) ∨ ((Itr lo n).go i H ∧ ∃ Nx : Hp → Prop, (∀ H', Nx H' → ∃ m', m' < m ∧ W (i + 1) m' H') ∧ ∀ x H', (Itr lo n).yld i H x H' → g x (wipe σ vs) H' fun σ2 H2 => wipe σ2 vs = wipe σ vs ∧ tYes σ2 H2 fun b H3 =>
        if b = true then te σ2 H3 fun y H4 => ∃ acc, H4 D = some (.lst acc) ∧ acc.length < sizeLine ∧ Nx (upd H4 D (.lst (acc ++ [y]))) else Nx H3) :=
  lc_range Pv h0 (fun i H hi p => by have := hs i H hi p; simpa only [tYes, if_true] using this) hd
end
theorem OwnL.of_same {H0 H H' : Hp} {st l : Addr} {c : Nat} (o : OwnL H0 H st l) (h : StoreOk H st c) (s : Same H H') : OwnL H0 H' st l := o.s h (SameS.of s)
theorem OwnL.back {H0 H1 H : Hp} {st l : Addr} (o : OwnL H1 H st l) (s : SameS st H0 H1) : OwnL H0 H st l := ⟨s.at_none o.ne o.new, o.ne, o.cl⟩
theorem RowsF.set {H : Hp} {xs : List V} {ds : List Rw} {j : Nat} {v : V} {d : Rw} (h : RowsF H xs ds) (hv : PairV H v d) : RowsF H (xs.set j v) (ds.set j d) := by
  refine ⟨by simp [h.len], fun i x e => ?_⟩
  rw [List.getElem?_set] at e
  rw [List.getElem?_set]
  by_cases c : j = i
  · rw [if_pos c] at e ⊢
    by_cases c2 : j < xs.length
    · rw [if_pos c2] at e
      rw [if_pos (by rw [← h.len]; exact c2)]
      cases e
      exact ⟨d, rfl, hv⟩
    · rw [if_neg c2] at e; cases e
  · rw [if_neg c] at e ⊢
    exact h.at_ i x e
def spMetK : Sp := sp1 fun s H Q _ => ∃ (st : Addr) (c : Nat), s = .ref st ∧ StoreOk H st c ∧ c ≤ 50000 ∧
  ∀ l xs ds t p x H', SameS st H H' → StoreOk H' st (c + 200) → OwnL H H' st l → H' l = some (.lst xs) → RowsF H' xs ds → RowsD ds → H' p = some (frO x) → MomOk x → H' t = some (.tup [.ref l, .ref p]) → Q (.ref t) H'
abbrev N__law_sky_for : List Str := ["_law_store_here", "_law_rows", "_law_moment_here", "_law_kind", "_law_row", "_law_spot"]
theorem sc__law_sky_for : FnScope N__law_sky_for ["_law_store_here"] (defScope S__law_sky_for) := ⟨rfl, rfl, rfl, by decide +kernel, rfl, by decide +kernel, by decide +kernel⟩
theorem ok__law_sky_for (T : Tx K mg) (d__law_place : Ok P w K mg base 3 "_law_place" ["_law_store_here"] (spDraw PlaceOk 3)) (d__law_frac : Ok P w K mg base 3 "_law_frac" ["_law_store_here"] (spDraw FracOk 3)) (d__law_take : Ok P w K mg base 2 "_law_take" ["_law_store_here", "_law_many_here"] spTake) (d__law_met : Ok P w K mg base 5 "_law_met" ["_law_store_here"] spMet)  : Ok P w K mg base 6 "_law_sky_for" ["_law_store_here"] spMetK := by
  obtain ⟨fd, F⟩ := T.f__law_sky_for
  have sc := sc__law_sky_for
  refine okFN (F := F) T.g__law_sky_for F.kp (F.bindsN fun _ _ _ _ _ _ us hl => match us, hl with | [_], _ => rfl) sc sp1_len (fun cdv A outer s H vs Q E hr h => ?_)
  obtain ⟨u, rfl, h⟩ := h
  refine ⟨_, (pss_cons (ps_asg (pe_f d__law_met (hr.mono (by decide)) rfl passL (pa_cons (pv 0) pa_nil)) (pg_tup rfl (pgs_cons (pg_name (i := 1) sc.nd rfl (Or.inr rfl)) (pgs_cons (pg_name (i := 2) sc.nd rfl (Or.inl rfl)) pgs_nil))))
      (pss_cons (ps_set (i := 3) sc.nd rfl (Or.inl rfl) (pe_f d__law_take (hr.mono (by decide)) rfl passL (pa_cons (pv 0) (pa_cons pe_int pa_nil))))
      (pss_cons (ps_if (pt_cmpR op_eq (pv 3) pe_int (nomark _)) (pss_one (ps_set (i := 1) sc.nd rfl (Or.inr rfl) (pe_lc rfl sc.nd (pi_list (pv 1)) (blkOk_by (N := N__law_sky_for) (sc := defScope S__law_sky_for) (own := [("_law_row", 4)]) (by decide +kernel)) (fun _ _ _ _ _ => (pg_name (i := 4) sc.nd rfl (Or.inl rfl))) (fun _ _ _ _ _ => pts_nil) (fun _ _ _ _ _ => (pe_tup (pa_cons (pe_f d__law_frac (hr.mono (by decide)) rfl passL (pa_cons (pv 0) pa_nil)) (pa_cons (pe_f d__law_place (hr.mono (by decide)) rfl passL (pa_cons (pv 0) pa_nil)) pa_nil))))))) (pss_one (ps_if (pt_cmpR op_eq (pv 3) pe_int (nomark _)) (pss_cons (ps_set (i := 5) sc.nd rfl (Or.inl rfl) (pe_f d__law_take (hr.mono (by decide)) rfl passL (pa_cons (pv 0) (pa_cons (pe_callB call_len (by rfl) T.b_len PySem.boot_len (pa_cons (pv 1) pa_nil)) pa_nil))))
      (pss_one (ps_asg (pe_tup (pa_cons (pe_ix ix_tup (pe_ix ix_list (pv 1) (pv 5) (fun _ _ => rfl)) pe_int (fun _ _ => rfl)) (pa_cons (pe_f d__law_place (hr.mono (by decide)) rfl passL (pa_cons (pv 0) pa_nil)) pa_nil))) (pg_sub (pv 1) (pv 5) set_list)))) (pss_one (ps_if (pt_cmpR op_eq (pv 3) pe_int (nomark _)) (pss_one (ps_set (i := 1) sc.nd rfl (Or.inr rfl) (pe_lc rfl sc.nd (pi_list (pv 1)) (blkOk_by (N := N__law_sky_for) (sc := defScope S__law_sky_for) (own := [("_law_row", 4)]) (by decide +kernel)) (fun _ _ _ _ _ => (pg_name (i := 4) sc.nd rfl (Or.inl rfl))) (fun _ _ _ _ _ => pts_nil) (fun _ _ _ _ _ => (pe_ix (ix_listK (K := K) rfl) (pv 1) pe_int (fun _ _ => rfl)))))) pss_nil)))))
      (pss_one (ps_ret (pe_tup (pa_cons (pv 1) (pa_cons (pv 2) pa_nil)))))))), ?_⟩
  obtain ⟨st, c, rfl, hs, hc, h⟩ := h
  refine ⟨_, rfl, _, rfl, st, c, rfl, hs, by omega, fun l xs ds t p x H1 s1 hs1 own hl hx hD hp bx ht => ?_⟩
  refine ⟨t, _, rfl, SqT.of ht, rfl, _, _, rfl, _, _, rfl, rfl, ?_⟩
  have xl := hx.len
  have d2 := hD.1
  have d6 := hD.2.1
  refine ⟨_, rfl, _, _, rfl, st, _, 8, rfl, rfl, hs1, by omega, by decide, fun z H2 s2 hs2 z0 z1 => ?_⟩
  have s12 := s1.trans s2
  have own2 := own.s hs1 s2
  have hl2 := s2.keep _ _ own.ne hl
  have hx2 := hx.monoL (s2.l hs1)
  have hp2 : H2 p = some (frO x) := s2.l hs1 _ _ hp (fun _ z => nomatch z)
  dsimp only
  refine seq_intro (fun σ' H' => ∃ (l' : Addr) (xs' : List V) (ds' : List Rw) (o3 o4 o5 : Option V), σ' = [some (.ref st), some (.ref l'), some (.ref p), o3, o4, o5] ∧ (SameS st H H' ∧ H' p = some (frO x)) ∧ StoreOk H' st (c + 121) ∧ OwnL H H' st l' ∧ H' l' = some (.lst xs') ∧ RowsF H' xs' ds' ∧ RowsD ds') (fun R hR => ?_) ?_
  · refine ⟨_, rfl, rfl, _, rfl, ifEq (fun e0 => ?_) (fun e0 => ?_)⟩
    · refine ⟨_, rfl, l, rfl, ⟨_, SqL.of hl2⟩, fun D hD' => ?_⟩
      have nD := hs2.ne hD'
      have D0 : H D = none := s12.at_none nD hD'
      have t0 := same_new (o := .lst []) hD'
      have nlD : l ≠ D := by rintro rfl; rw [hl2] at hD'; cases hD'
      refine lc_listY (xs := xs) (fun i Hx => ∃ acc ds, SameS st H2 Hx ∧ StoreOk Hx st (c + 61 + 6 * i) ∧ NotCl Hx st D ∧ Hx D = some (.lst acc) ∧ acc.length = i ∧ RowsF Hx acc ds ∧ ∀ d ∈ ds, RowOk d) ?_ ?_ ?_ ?_
      · exact ⟨[], [], SameS.of t0, (hs2.same t0).le (by omega), (NotCl.of hs2 hD').s hs2 (SameS.of t0), upd_same, rfl, RowsF.nil, by simp⟩
      · rintro i Hx _ ⟨acc, ds', sx, _⟩
        exact SqL.of (sx.keep _ _ own.ne hl2)
      · rintro i v Hx hi ⟨acc, ds', sx, hsx, nc, hDx, hacc, hF, hok⟩
        have il := (List.getElem?_eq_some_iff.mp hi).1
        refine ⟨rfl, ?_⟩
        refine ⟨_, rfl, _, rfl, st, _, rfl, hsx, by omega, fun r p1 H3 s3 hs3 okr hp1 => ?_⟩
        refine ⟨_, rfl, _, rfl, st, _, rfl, hs3, by omega, fun y p2 H4 s4 hs4 oky hp2' => ?_⟩
        refine ⟨line2, fun t1 ht1 => ?_⟩
        have n := same_new (o := .tup [.ref p1, .ref p2]) ht1
        have s34 := s3.trans s4
        have hD4 := n _ _ (s34.keep _ _ nD hDx)
        have SL := SameL.upd (ys := acc ++ [.ref t1]) hD4
        have s5 := s34.trans (SameS.of n)
        have nc5 := nc.s hsx s5
        refine ⟨acc, hD4, Nat.lt_of_le_of_lt (show acc.length ≤ 6 by omega) (show 6 < sizeLine by decide), acc ++ [.ref t1], ds' ++ [(r, y)], (sx.trans s5).own hD' nD, ((hs4.same n).own nD nc5).le (by omega), nc5.upd nD, upd_same, by simp [hacc], ?_, fun d hd => ?_⟩
        · refine ((hF.monoL (s5.l hsx)).monoL SL).snoc (PairV.monoL ⟨t1, _, _, rfl, upd_same, ?_, FrV.mono ⟨p2, rfl, hp2'⟩ n⟩ SL)
          exact (FrV.monoL ⟨p1, rfl, hp1⟩ (s4.l hs3)).mono n
        · rcases List.mem_append.mp hd with w | w
          · exact hok d w
          · rw [List.mem_singleton.mp w]
            exact ⟨okr, oky.1.mono (by decide), oky.2.1, oky.2.2⟩
      · rintro Hx ⟨acc, ds', sx, hsx, nc, hDx, hacc, hF, hok⟩
        have l' := hF.len
        exact hR _ _ ⟨D, acc, ds', _, _, _, rfl, ⟨s12.trans sx, sx.l hs2 _ _ hp2 (fun _ z => nomatch z)⟩, hsx.le (by omega), ⟨D0, nD, nc⟩, hDx, hF, by omega, by omega, hok⟩
    · refine ⟨_, rfl, rfl, _, rfl, ifEq (fun e1 => ?_) (fun e1 => ?_)⟩
      · refine ⟨_, rfl, _, rfl, _, _, rfl, lenL hl2, _, _, rfl, st, _, _, rfl, rfl, hs2, by omega, by omega, fun k H3 s3 hs3 k0 k1 => ?_⟩
        have kl : k.toNat < xs.length := by omega
        have ek : ((k.toNat : Nat) : Int) = k := by omega
        have hl3 := s3.keep _ _ own.ne hl2
        have hx3 := hx2.monoL (s3.l hs2)
        obtain ⟨d, hd, tt, q1, q2, ev, ht1, f1, f2⟩ := hx3.at_ k.toNat _ (List.getElem?_eq_getElem kl)
        have ea := atI_nat (xs := xs) (j := k.toNat) (v := .ref tt) (by rw [← ev]; exact List.getElem?_eq_getElem kl)
        rw [ek] at ea
        refine ⟨_, rfl, _, rfl, l, xs, k, _, rfl, rfl, SqL.of hl3, ea, tt, _, _, _, rfl, rfl, SqT.of ht1, at_0, ?_⟩
        refine ⟨_, rfl, _, rfl, st, _, rfl, hs3, by omega, fun y p2 H4 s4 hs4 oky hp2' => ⟨line2, fun t1 ht1' => ?_⟩⟩
        have n := same_new (o := .tup [q1, .ref p2]) ht1'
        have s5 := s4.trans (SameS.of n)
        have hl5 := s5.keep _ _ own.ne hl3
        have own5 := (own2.s hs2 s3).s hs3 s5
        have okd := hD.2.2 d (List.mem_of_getElem? hd)
        have SL := SameL.upd (ys := xs.set k.toNat (.ref t1)) hl5
        have pv_ : PairV (upd (upd H4 t1 (.tup [q1, .ref p2])) l (.lst (xs.set k.toNat (.ref t1)))) (.ref t1) (d.1, y) :=
          PairV.monoL ⟨t1, _, _, rfl, upd_same, (f1.monoL (s4.l hs3)).mono n, FrV.mono ⟨p2, rfl, hp2'⟩ n⟩ SL
        refine ⟨_, rfl, _, rfl, l, xs, k, k.toNat, rfl, rfl, hl5, by rw [← ek]; exact ixNat kl, ?_⟩
        refine hR _ _ ⟨l, _, ds.set k.toNat (d.1, y), _, _, _, rfl, ?_, ((hs4.same n).own own.ne own5.cl).le (by omega), ⟨own.new, own.ne, own5.cl.upd own.ne⟩, upd_same, ((hx3.monoL (s5.l hs3)).monoL SL).set pv_, by simp; omega, by simp; omega, fun d' hd' => ?_⟩
        · exact ⟨(s12.trans (s3.trans s5)).own own.new own.ne, SL _ _ ((s5.l hs3) _ _ ((s3.l hs2) _ _ hp2 (fun _ z => nomatch z)) (fun _ z => nomatch z)) (fun _ z => nomatch z)⟩
        · rcases List.mem_or_eq_of_mem_set hd' with w | w
          · exact hD.2.2 d' w
          · rw [w]; exact ⟨okd.1, oky.1.mono (by decide), oky.2.1, oky.2.2⟩
      · refine ⟨_, rfl, rfl, _, rfl, ifEq (fun e2 => ?_) (fun e2 => ?_)⟩
        · refine ⟨_, rfl, l, rfl, ⟨_, SqL.of hl2⟩, fun D hD' => ?_⟩
          obtain ⟨d0, hd0⟩ : ∃ d0, ds[0]? = some d0 := ⟨_, List.getElem?_eq_getElem (by omega)⟩
          obtain ⟨x0, hx0⟩ : ∃ x0, xs[0]? = some x0 := ⟨_, List.getElem?_eq_getElem (by omega)⟩
          have nD := hs2.ne hD'
          refine lc_mapL (R := fun i y Hx => PairV Hx y d0) (xs := xs) (fun i y Ha Hb s a => a.monoL s) hl2 hD' (line400 (by omega)) (fun i v Hx hi sx k hk => ?_) (fun H3 ys s3 hy hn hr3 => ?_)
          · obtain ⟨d, hd, pv_⟩ := hx2.at_ 0 x0 hx0
            rw [hd0] at hd; cases hd
            exact ⟨rfl, _, rfl, l, xs, 0, x0, rfl, rfl, SqL.of (sx _ _ hl2), atI_nat (j := 0) hx0, hk _ _ Same.rfl' (pv_.mono sx)⟩
          · refine hR _ _ ⟨D, ys, List.replicate ys.length d0, _, _, _, rfl, ⟨s12.trans (SameS.of s3), s3 _ _ hp2⟩, (hs2.same s3).le (by omega), ⟨s12.at_none nD hD', nD, (NotCl.of hs2 hD').s hs2 (SameS.of s3)⟩, hy, ⟨by simp, fun i y hi => ?_⟩, by simp; omega, by simp; omega, fun d hd => ?_⟩
            · have il := (List.getElem?_eq_some_iff.mp hi).1
              exact ⟨d0, by rw [List.getElem?_replicate, if_pos il], hr3 i y hi⟩
            · rw [List.eq_of_mem_replicate hd]; exact hD.2.2 _ (List.mem_of_getElem? hd0)
        · exact hR _ _ ⟨l, xs, ds, _, _, _, rfl, ⟨s12, hp2⟩, hs2.le (by omega), own2, hl2, hx2, hD⟩
  · rintro σ' H' ⟨l', xs', ds', o3, o4, o5, rfl, ⟨s3, hp3⟩, hs3, own3, hl3, hx3, hD3⟩
    refine ⟨_, rfl, _, rfl, line2, fun t' ht' => ?_⟩
    have n := same_new (o := .tup [.ref l', .ref p]) ht'
    exact h l' xs' ds' t' p x _ (s3.trans (SameS.of n)) ((hs3.same n).le (by omega)) (own3.of_same hs3 n) (n _ _ hl3) (hx3.mono n) hD3 (n _ _ hp3) bx upd_same
end
end Wk
set_option maxHeartbeats 4000000
namespace Wk
open PySem PySem.Spec PyProof.Rows L2
section
variable {P : Program} {w : World} {K : PySem.W.Frag} {mg : Str → Option Value} {base : Heap}
theorem frO_abs (r : Rat) : frO (absR r) = .tup [.int (if r.num < 0 then -r.num else r.num), .int (r.den : Int)] := by
  unfold absR
  have := lt0_num r
  by_cases c : r < 0
  · rw [if_pos c, if_pos (this.mp c)]; rfl
  · rw [if_neg c, if_neg (fun z => c (this.mpr z))]
def spSeenL : Sp := sp2 fun a k H Q _ => ∃ l xs ds, ∃ (j : Nat) (m : Rw), a = .ref l ∧ k = .int (j : Int) ∧ H l = some (.lst xs) ∧ RowsF H xs ds ∧ ds.length ≤ 6 ∧ ds[j]? = some m ∧ (∀ d ∈ ds, Big d.1 ∧ Big d.2 ∧ Sz 2000 d.2) ∧
  ∀ D ys H', Same H H' → H D = none → H' D = some (.lst ys) → RowsF H' ys (ds.map (subRow m)) → Q (.ref D) H'
theorem rowsF_of {H : Hp} {ys : List V} {α : Type} {l : List α} {f : α → Rw} (hl : ys.length = l.length) (h : ∀ (i : Nat) (y : V), ys[i]? = some y → ∃ u, l[i]? = some u ∧ PairV H y (f u)) : RowsF H ys (l.map f) :=
  ⟨by simp [hl], fun i x e => let ⟨u, hu, hf⟩ := h i x e; ⟨f u, by rw [List.getElem?_map, hu]; rfl, hf⟩⟩
abbrev N__law_seen : List Str := ["_law_rows", "_law_spot", "_law_base", "_law_row"]
theorem sc__law_seen : FnScope N__law_seen ["_law_rows", "_law_spot"] (defScope S__law_seen) := ⟨rfl, rfl, rfl, by decide +kernel, rfl, by decide +kernel, by decide +kernel⟩
theorem ok__law_seen (T : Tx K mg) (d__law_part : Ok P w K mg base 3 "_law_part" ["_law_value"] spPartL) (d__law_minus : Ok P w K mg base 3 "_law_minus" ["_law_left", "_law_right"] (spBinL (fun x y => x - y)))  : Ok P w K mg base 4 "_law_seen" ["_law_rows", "_law_spot"] spSeenL := by
  obtain ⟨fd, F⟩ := T.f__law_seen
  have sc := sc__law_seen
  refine okFN (F := F) T.g__law_seen F.kp (F.bindsN fun _ _ _ _ _ _ us hl => match us, hl with | [_, _], _ => rfl) sc sp2_len (fun cdv A outer s H vs Q E hr h => ?_)
  obtain ⟨u, v, rfl, h⟩ := h
  refine ⟨_, (pss_cons (ps_set (i := 2) sc.nd rfl (Or.inr rfl) (pe_ix ix_list (pv 0) (pv 1) (fun _ _ => rfl)))
      (pss_one (ps_ret (pe_lc rfl sc.nd (pi_list (pv 0)) (blkOk_by (N := N__law_seen) (sc := defScope S__law_seen) (own := [("_law_row", 3)]) (by decide +kernel)) (fun _ _ _ _ _ => (pg_name (i := 3) sc.nd rfl (Or.inl rfl))) (fun _ _ _ _ _ => pts_nil) (fun _ _ _ _ _ => (pe_tup (pa_cons (pe_f d__law_minus (hr.mono (by decide)) rfl passL (pa_cons (pe_ix (ix_tupK (K := K) rfl) (pv 3) pe_int (fun _ _ => rfl)) (pa_cons (pe_ix (ix_tupK (K := K) rfl) (pv 2) pe_int (fun _ _ => rfl)) pa_nil))) (pa_cons (pe_f d__law_part (hr.mono (by decide)) rfl passL (pa_cons (pe_f d__law_minus (hr.mono (by decide)) rfl passL (pa_cons (pe_ix (ix_tupK (K := K) rfl) (pv 3) pe_int (fun _ _ => rfl)) (pa_cons (pe_ix (ix_tupK (K := K) rfl) (pv 2) pe_int (fun _ _ => rfl)) pa_nil))) pa_nil)) pa_nil)))))))), ?_⟩
  obtain ⟨l, xs, ds, j, m, rfl, rfl, hl, hx, d6, hm, hb, h⟩ := h
  have xl := hx.len
  have jl : j < xs.length := by have := (List.getElem?_eq_some_iff.mp hm).1; omega
  obtain ⟨m', hm', t, p, q, ev, ht, fp, fq⟩ := hx.at_ j _ (List.getElem?_eq_getElem jl)
  rw [hm] at hm'; cases hm'
  have ej : xs[j]? = some (.ref t) := by rw [← ev]; exact List.getElem?_eq_getElem jl
  refine ⟨_, rfl, _, rfl, l, xs, _, _, rfl, rfl, SqL.of hl, atI_nat ej, ?_⟩
  refine ⟨_, rfl, l, rfl, ⟨_, SqL.of hl⟩, fun D hD => ?_⟩
  have bm := hb m (List.mem_of_getElem? hm)
  refine lc_mapL (R := fun i y Hx => ∃ d, ds[i]? = some d ∧ PairV Hx y (subRow m d)) (xs := xs) (fun i y Ha Hb s ⟨d, a, b⟩ => ⟨d, a, b.monoL s⟩) hl hD (line400 (by omega)) (fun i v Hx hi sx k hk => ?_) (fun H3 ys s3 hy hn hr3 => ?_)
  · obtain ⟨d, hd, t2, p2, q2, rfl, ht2, fp2, fq2⟩ := hx.at_ i v hi
    have bd := hb d (List.mem_of_getElem? hd)
    refine ⟨rfl, _, rfl, t2, _, _, _, rfl, rfl, SqT.of (sx _ _ ht2), at_0, _, rfl, t, _, _, _, rfl, rfl, SqT.of (sx _ _ ht), at_0, _, _, rfl, d.1, m.1, fp2.mono sx, fp.mono sx, bd.1, bm.1, fun r1 hr1 => ?_⟩
    have n1 := Same.new (o := frO (d.1 - m.1)) sx hr1
    refine ⟨_, rfl, t2, _, _, _, rfl, rfl, SqT.of (n1 _ _ ht2), at_1, _, rfl, t, _, _, _, rfl, rfl, SqT.of (n1 _ _ ht), at_1, _, _, rfl, d.2, m.2, fq2.mono n1, fq.mono n1, bd.2.1, bm.2.1, fun r2 hr2 => ?_⟩
    refine ⟨_, rfl, d.2 - m.2, ⟨r2, rfl, upd_same⟩, (bd.2.2.sub bm.2.2).mono (by decide), fun r3 hr3 => ⟨line2, fun t3 ht3 => ?_⟩⟩
    have k1 := same_new (o := frO (d.2 - m.2)) hr2
    have k2 := Same.new (o := frO (fr (d.2 - m.2))) k1 hr3
    have k3 := Same.new (o := .tup [.ref r1, .ref r3]) k2 ht3
    exact hk _ _ (Same.trans' (same_new hr1) k3) ⟨d, hd, t3, _, _, rfl, upd_same, FrV.mono ⟨r1, rfl, upd_same⟩ k3, FrV.mono ⟨r3, rfl, upd_same⟩ (same_new ht3)⟩
  · exact h D ys H3 s3 hD hy (rowsF_of (by omega) hr3)
def spShort : Sp := sp3 fun s a m H Q _ => ∃ (st : Addr) (c : Nat), ∃ l xs ds x, s = .ref st ∧ StoreOk H st c ∧ c ≤ 80000 ∧ a = .ref l ∧ H l = some (.lst xs) ∧ RowsF H xs ds ∧ ds.length ≤ 6 ∧ (∀ d ∈ ds, Sz 20 d.1) ∧ FrV H m x ∧ Sz 250 x ∧ -1000000000 ≤ x ∧ x ≤ 1000000000 ∧
  ∀ a b t H', SameS st H H' → StoreOk H' st (c + 2) → SpanN 300 a b → -1000000144 ≤ a ∧ b ≤ 1000000144 → (∀ d ∈ ds, absR d.1 * (b - a) ≤ 24) → PairV H' (.ref t) (a, b) → Q (.ref t) H'
theorem sgn_neg {x y : Rat} : sgn x y < 0 ↔ x < y := by
  unfold sgn
  by_cases h : x < y
  · rw [if_pos h]; simp [h]
  · rw [if_neg h]
    split <;> simp [h]
theorem nn_of_mul {a F : Rat} (hF : 0 < F) (h : 0 ≤ a * F) : 0 ≤ a := by
  refine Rat.not_lt.mp fun z => ?_
  have := Rat.mul_lt_mul_of_pos_right z hF
  grind
theorem short_math {y y' : Int} {F D x : Rat} (pF : 0 < F) (y0 : 0 ≤ y) (y1 : y ≤ 36) (y0' : 0 ≤ y') (y1' : y' ≤ 36) (hD : D ≤ F) :
    x - Rat.divInt y 3 / F ≤ x + Rat.divInt y' 3 / F ∧ D * ((x + Rat.divInt y' 3 / F) - (x - Rat.divInt y 3 / F)) ≤ 24 := by
  have F0 : F ≠ 0 := by grind
  have e1 := divInt_mul (n := y) (b := 3) (by decide)
  have e2 := divInt_mul (n := y') (b := 3) (by decide)
  have y36 : ((y : Int) : Rat) ≤ 36 := by have := Rat.intCast_le_intCast.mpr (show y ≤ 36 by omega); exact_mod_cast this
  have y36' : ((y' : Int) : Rat) ≤ 36 := by have := Rat.intCast_le_intCast.mpr (show y' ≤ 36 by omega); exact_mod_cast this
  have q0 := divInt_nn (b := 3) (by decide) y0
  have q0' := divInt_nn (b := 3) (by decide) y0'
  generalize Rat.divInt y 3 = A at *
  generalize Rat.divInt y' 3 = B at *
  have A12 : A ≤ 12 := by simp at e1; grind
  have B12 : B ≤ 12 := by simp at e2; grind
  have iA : A / F * F = A := Rat.div_mul_cancel F0
  have iB : B / F * F = B := Rat.div_mul_cancel F0
  have a0 : 0 ≤ A / F := nn_of_mul pF (by rw [iA]; exact q0)
  have b0 : 0 ≤ B / F := nn_of_mul pF (by rw [iB]; exact q0')
  generalize A / F = a at *
  generalize B / F = b at *
  refine ⟨by grind, ?_⟩
  have nnab : 0 ≤ b + a := by grind
  have c1 : D * (b + a) ≤ F * (b + a) := Rat.mul_le_mul_of_nonneg_right hD nnab
  have e : x + b - (x - a) = b + a := by grind
  rw [e]
  grind
theorem short_bound {y y' : Int} {F x : Rat} (pF : 0 < F) (pF2 : 1 ≤ 12 * F) (y0 : 0 ≤ y) (y1 : y ≤ 36) (y0' : 0 ≤ y') (y1' : y' ≤ 36) (x0 : -1000000000 ≤ x) (x1 : x ≤ 1000000000) :
    -1000000144 ≤ x - Rat.divInt y 3 / F ∧ x + Rat.divInt y' 3 / F ≤ 1000000144 := by
  have F0 : F ≠ 0 := by grind
  have key : ∀ z : Int, 0 ≤ z → z ≤ 36 → Rat.divInt z 3 / F ≤ 144 := fun z z0 z1 => by
    have e1 := divInt_mul (n := z) (b := 3) (by decide)
    have z36 : ((z : Int) : Rat) ≤ 36 := by have := Rat.intCast_le_intCast.mpr (show z ≤ 36 by omega); exact_mod_cast this
    have q0 := divInt_nn (b := 3) (by decide) z0
    generalize Rat.divInt z 3 = A at *
    have A12 : A ≤ 12 := by simp at e1; grind
    have iA : A / F * F = A := Rat.div_mul_cancel F0
    have a0 : 0 ≤ A / F := nn_of_mul pF (by rw [iA]; exact q0)
    generalize A / F = a at *
    have : a * 1 ≤ a * (12 * F) := Rat.mul_le_mul_of_nonneg_left pF2 a0
    grind
  have k1 := key y y0 y1
  have k2 := key y' y0' y1'
  constructor <;> grind
abbrev N__law_short_span : List Str := ["_law_store_here", "_law_seen_here", "_law_moment_here", "_law_fastest", "_law_row", "_law_before", "_law_after"]
theorem sc__law_short_span : FnScope N__law_short_span ["_law_store_here", "_law_seen_here", "_law_moment_here"] (defScope S__law_short_span) := ⟨rfl, rfl, rfl, by decide +kernel, rfl, by decide +kernel, by decide +kernel⟩
theorem ok__law_short_span (T : Tx K mg) (d__law_plus : Ok P w K mg base 3 "_law_plus" ["_law_left", "_law_right"] (spBinL (fun x y => x + y))) (d__law_over : Ok P w K mg base 3 "_law_over" ["_law_left", "_law_right"] (spBinL (fun x y => x / y))) (d__law_minus : Ok P w K mg base 3 "_law_minus" ["_law_left", "_law_right"] (spBinL (fun x y => x - y))) (d__law_lowest : Ok P w K mg base 2 "_law_lowest" ["_law_top", "_law_bottom"] spLawLow) (d__law_take : Ok P w K mg base 2 "_law_take" ["_law_store_here", "_law_many_here"] spTake) (d__law_sign : Ok P w K mg base 1 "_law_sign" ["_law_left", "_law_right"] spCmp)  : Ok P w K mg base 4 "_law_short_span" ["_law_store_here", "_law_seen_here", "_law_moment_here"] spShort := by
  obtain ⟨fd, F⟩ := T.f__law_short_span
  have sc := sc__law_short_span
  refine okFN (F := F) T.g__law_short_span F.kp (F.bindsN fun _ _ _ _ _ _ us hl => match us, hl with | [_, _, _], _ => rfl) sc sp3_len (fun cdv A outer s H vs Q E hr h => ?_)
  obtain ⟨u, v, z, rfl, h⟩ := h
  refine ⟨_, (pss_cons (ps_set (i := 3) sc.nd rfl (Or.inl rfl) (pe_tup (pa_cons pe_int (pa_cons pe_int pa_nil))))
      (pss_cons (ps_for PassesOwn.never rfl (pi_list (pv 1)) (pg_name (i := 4) sc.nd rfl (Or.inl rfl)) (pss_one (ps_if (pt_cmpR op_lt (pe_f d__law_sign (hr.mono (by decide)) rfl passL (pa_cons (pv 3) (pa_cons (pe_tup (pa_cons (pe_callB call_abs (by rfl) T.b_abs (by decide +kernel) (pa_cons (pe_ix ix_tup (pe_ix ix_tup (pv 4) pe_int (fun _ _ => rfl)) pe_int (fun _ _ => rfl)) pa_nil)) (pa_cons (pe_ix ix_tup (pe_ix ix_tup (pv 4) pe_int (fun _ _ => rfl)) pe_int (fun _ _ => rfl)) pa_nil))) pa_nil))) pe_int (nomark _)) (pss_one (ps_set (i := 3) sc.nd rfl (Or.inl rfl) (pe_tup (pa_cons (pe_callB call_abs (by rfl) T.b_abs (by decide +kernel) (pa_cons (pe_ix ix_tup (pe_ix ix_tup (pv 4) pe_int (fun _ _ => rfl)) pe_int (fun _ _ => rfl)) pa_nil)) (pa_cons (pe_ix ix_tup (pe_ix ix_tup (pv 4) pe_int (fun _ _ => rfl)) pe_int (fun _ _ => rfl)) pa_nil))))) pss_nil)))
      (pss_cons (ps_set (i := 5) sc.nd rfl (Or.inl rfl) (pe_f d__law_lowest (hr.mono (by decide)) rfl passL (pa_cons (pe_f d__law_take (hr.mono (by decide)) rfl passL (pa_cons (pv 0) (pa_cons pe_int pa_nil))) (pa_cons pe_int pa_nil))))
      (pss_cons (ps_set (i := 6) sc.nd rfl (Or.inl rfl) (pe_f d__law_lowest (hr.mono (by decide)) rfl passL (pa_cons (pe_f d__law_take (hr.mono (by decide)) rfl passL (pa_cons (pv 0) (pa_cons pe_int pa_nil))) (pa_cons pe_int pa_nil))))
      (pss_one (ps_ret (pe_tup (pa_cons (pe_f d__law_minus (hr.mono (by decide)) rfl passL (pa_cons (pv 2) (pa_cons (pe_f d__law_over (hr.mono (by decide)) rfl passL (pa_cons (pv 5) (pa_cons (pv 3) pa_nil))) pa_nil))) (pa_cons (pe_f d__law_plus (hr.mono (by decide)) rfl passL (pa_cons (pv 2) (pa_cons (pe_f d__law_over (hr.mono (by decide)) rfl passL (pa_cons (pv 6) (pa_cons (pv 3) pa_nil))) pa_nil))) pa_nil))))))))), ?_⟩
  obtain ⟨st, c, l, xs, ds, x, rfl, hs, hc, rfl, hl, hx, d6, hb, hm, bx, x0, x1, h⟩ := h
  have xl := hx.len
  refine ⟨line2, fun p0 hp0 => ?_⟩
  have n0 := same_new (o := .tup [.int 1, .int 12]) hp0
  refine ⟨_, rfl, l, rfl, ⟨_, SqL.of (n0 _ _ hl)⟩, ?_⟩
  refine for_list (xs := xs) (fun i σ H' => ∃ (fv : V) (F : Rat) (o4 : Option V), σ = [some (.ref st), some (.ref l), some z, some fv, o4, none, none] ∧ Same H H' ∧ FrV H' fv F ∧ Sz 20 F ∧ (0 < F ∧ 1 ≤ 12 * F) ∧ ∀ j, j < i → ∀ d, ds[j]? = some d → absR d.1 ≤ F) ?_ ?_ ?_ ?_
  · exact ⟨_, Rat.divInt 1 12, _, rfl, n0, pk 1 12 upd_same rfl rfl, ⟨by decide, by decide⟩, ⟨by decide, by decide +kernel⟩, fun j hj => absurd hj (Nat.not_lt_zero _)⟩
  · rintro i σ H' _ ⟨fv, F, o4, rfl, sm, _⟩
    exact SqL.of (sm _ _ hl)
  · rintro i v σ H' hi ⟨fv, F, o4, rfl, sm, fF, bF, ⟨pF, pF2⟩, hF⟩
    obtain ⟨d, hd, t, p, q, rfl, ht, fp, fq⟩ := hx.at_ i v hi
    obtain ⟨p, rfl, hp⟩ := fp
    have ht2 := sm _ _ ht
    have hp2 := sm _ _ hp
    have bd := hb d (List.mem_of_getElem? hd)
    refine ⟨_, rfl, _, rfl, t, _, _, _, rfl, rfl, SqT.of ht2, at_0, p, _, _, _, rfl, rfl, sq2 hp2, at_0, _, rfl, _, rfl, t, _, _, _, rfl, rfl, SqT.of ht2, at_0, p, _, _, _, rfl, rfl, sq2 hp2, at_1, line2, fun r1 hr1 => ?_⟩
    rw [← frO_abs d.1]
    have n1 := same_new (o := frO (absR d.1)) hr1
    refine ⟨_, _, rfl, F, absR d.1, fF.mono n1, ⟨r1, rfl, upd_same⟩, bF.mono (by decide), bd.absR.mono (by decide), ?_⟩
    have n1s := Same.trans' sm n1
    have old : ∀ F', F ≤ F' → absR d.1 ≤ F' → ∀ j, j < i + 1 → ∀ d', ds[j]? = some d' → absR d'.1 ≤ F' := fun F' le1 le2 j hj d' hd' => by
      rcases Nat.lt_or_eq_of_le (Nat.le_of_lt_succ hj) with w | w
      · exact Rat.le_trans (hF j w d' hd') le1
      · subst w; rw [hd] at hd'; cases hd'; exact le2
    refine ⟨_, _, rfl, rfl, _, rfl, ifD (fun lt => ?_) (fun ge => ?_)⟩
    · have lt := sgn_neg.mp lt
      refine ⟨_, rfl, t, _, _, _, rfl, rfl, SqT.of (n1 _ _ ht2), at_0, p, _, _, _, rfl, rfl, sq2 (n1 _ _ hp2), at_0, _, rfl, _, rfl, t, _, _, _, rfl, rfl, SqT.of (n1 _ _ ht2), at_0, p, _, _, _, rfl, rfl, sq2 (n1 _ _ hp2), at_1, line2, fun r2 hr2 => ?_⟩
      rw [← frO_abs d.1]
      exact ⟨_, absR d.1, _, rfl, Same.new n1s hr2, ⟨r2, rfl, upd_same⟩, bd.absR, ⟨by grind, by grind⟩, old _ (by grind) Rat.le_refl⟩
    · have ge : ¬ F < absR d.1 := fun w => ge (sgn_neg.mpr w)
      exact ⟨_, F, _, rfl, n1s, fF.mono n1, bF, ⟨pF, pF2⟩, old _ Rat.le_refl (Rat.not_lt.mp ge)⟩
  · rintro σ H1 ⟨fv, F, o4, rfl, sm, fF, bF, ⟨pF, pF2⟩, hF⟩
    have hs1 := hs.same sm
    refine ⟨_, rfl, _, _, rfl, st, c, 37, rfl, rfl, hs1, by omega, by decide, fun y H2 s2 hs2 y0 y1 => ?_⟩
    refine ⟨_, _, rfl, _, _, rfl, rfl, Nat.lt_of_lt_of_le (show (3 : Int).natAbs < 2 ^ 10 by decide) (Nat.pow_le_pow_right (by decide) (by decide)), fun p1 hp1 => ?_⟩
    have n1 := same_new (o := frO (Rat.divInt y 3)) hp1
    have hs3 := hs2.same n1
    refine ⟨_, rfl, _, _, rfl, st, c + 1, 37, rfl, rfl, hs3, by omega, by decide, fun y' H4 s4 hs4 y0' y1' => ?_⟩
    refine ⟨_, _, rfl, _, _, rfl, rfl, Nat.lt_of_lt_of_le (show (3 : Int).natAbs < 2 ^ 10 by decide) (Nat.pow_le_pow_right (by decide) (by decide)), fun p2 hp2 => ?_⟩
    have n2 := same_new (o := frO (Rat.divInt y' 3)) hp2
    have s04 : SameS st H H4 := ((SameS.of (st := st) sm).trans s2).trans ((SameS.of n1).trans s4)
    have b1 : Sz 6 (Rat.divInt y 3) := Sz.of_divInt (by decide) (by omega) (by decide)
    have b2 : Sz 6 (Rat.divInt y' 3) := Sz.of_divInt (by decide) (by omega) (by decide)
    have F0 : F ≠ 0 := by grind
    have fF5 : FrV (upd H4 p2 (frO (Rat.divInt y' 3))) fv F := (((fF.monoL (s2.l hs1)).mono n1).monoL (s4.l hs3)).mono n2
    have fm5 : FrV (upd H4 p2 (frO (Rat.divInt y' 3))) z x := (hm.monoL (s04.l hs)).mono n2
    have f15 : FrV (upd H4 p2 (frO (Rat.divInt y' 3))) (.ref p1) (Rat.divInt y 3) := (FrV.monoL ⟨p1, rfl, upd_same⟩ (s4.l hs3)).mono n2
    have bq1 := b1.div bF F0
    have bq2 := b2.div bF F0
    refine ⟨_, rfl, _, rfl, _, rfl, _, _, rfl, Rat.divInt y 3, F, f15, fF5, b1.mono (by decide), bF.mono (by decide), fun r1 hr1 => ?_⟩
    have m1 := same_new (o := frO (Rat.divInt y 3 / F)) hr1
    refine ⟨_, _, rfl, x, Rat.divInt y 3 / F, fm5.mono m1, ⟨r1, rfl, upd_same⟩, bx.mono (by decide), bq1.mono (by decide), fun r2 hr2 => ?_⟩
    have m2 := Same.new (o := frO (x - Rat.divInt y 3 / F)) m1 hr2
    refine ⟨_, rfl, _, rfl, _, rfl, _, _, rfl, Rat.divInt y' 3, F, FrV.mono ⟨p2, rfl, upd_same⟩ m2, fF5.mono m2, b2.mono (by decide), bF.mono (by decide), fun r3 hr3 => ?_⟩
    have m3 := Same.new (o := frO (Rat.divInt y' 3 / F)) m2 hr3
    refine ⟨_, _, rfl, x, Rat.divInt y' 3 / F, fm5.mono m3, ⟨r3, rfl, upd_same⟩, bx.mono (by decide), bq2.mono (by decide), fun r4 hr4 => ⟨line2, fun t ht => ?_⟩⟩
    have k1 := same_new (o := frO (Rat.divInt y' 3 / F)) hr3
    have k2 := Same.new (o := frO (x + Rat.divInt y' 3 / F)) k1 hr4
    have k3 := Same.new (o := .tup [.ref r2, .ref r4]) k2 ht
    have all := Same.trans' n2 (Same.trans' m2 k3)
    refine h (x - Rat.divInt y 3 / F) (x + Rat.divInt y' 3 / F) t _ (s04.trans (SameS.of all)) ((hs4.same all).le (by omega)) ⟨(short_math (x := x) pF y0 (by omega) y0' (by omega) (D := 0) (Rat.le_of_lt pF)).1, (bx.sub bq1).mono (by decide), (bx.add bq2).mono (by decide)⟩ (short_bound pF pF2 y0 (by omega) y0' (by omega) x0 x1) (fun d hd => ?_) ⟨t, _, _, rfl, upd_same, FrV.mono ⟨r2, rfl, upd_same⟩ k3, FrV.mono ⟨r4, rfl, upd_same⟩ (same_new ht)⟩
    obtain ⟨j, hj, ej⟩ := List.getElem_of_mem hd
    exact (short_math (x := x) pF y0 (by omega) y0' (by omega) (hF j (by omega) d (by rw [← ej]; exact List.getElem?_eq_getElem hj))).2
end
end Wk
set_option maxHeartbeats 4000000
namespace Wk
open PySem PySem.Spec PyProof.Rows L2
section
variable {P : Program} {w : World} {K : PySem.W.Frag} {mg : Str → Option Value} {base : Heap}
/-! ### the law's rule -/
def spBez : Sp := sp2 fun a b H Q _ => ∃ i j : Int, a = .int i ∧ b = .int j ∧ i.natAbs < 2 ^ 4400 ∧ j.natAbs < 2 ^ 4400 ∧
  ∀ x y : Int, x * i + y * j = (Int.gcd i j : Nat) → x.natAbs ≤ j.natAbs + 1 → y.natAbs ≤ i.natAbs + 1 → Gv H (.tup [.int ((Int.gcd i j : Nat) : Int), .int x, .int y]) Q
abbrev R6 (now x y after nx ny : Int) : List V := [.int now, .int x, .int y, .int after, .int nx, .int ny]
theorem cut3 (a b c d e f : V) : cutV [a, b, c, d, e, f] (some 3) none = [d, e, f] := rfl
theorem line6 {a b c d e f : V} : ([a, b, c, d, e, f] : List V).length ≤ sizeLine := by show 6 ≤ sizeLine; decide
theorem three_of {ys : List V} {f : Nat → Int} (hl : ys.length = 3) (h : ∀ (i : Nat) (y : V), ys[i]? = some y → y = .int (f i)) : ys = [.int (f 0), .int (f 1), .int (f 2)] := by
  match ys, hl with
  | [a, b, c], _ => rw [h 0 a rfl, h 1 b rfl, h 2 c rfl]
theorem bez_end {i j now x nx y ny : Int} (W : Wd (i.natAbs : Int) (j.natAbs : Int) now 0 x nx y ny) : now = ((Int.gcd i j : Nat) : Int) ∧ (if i < 0 then -x else x) * i + (if j < 0 then -y else y) * j = ((Int.gcd i j : Nat) : Int) ∧
    (if i < 0 then -x else x).natAbs ≤ j.natAbs + 1 ∧ (if j < 0 then -y else y).natAbs ≤ i.natAbs + 1 := by
  have g := W.gcd
  rw [Int.gcd_zero] at g
  have hg : Int.gcd (i.natAbs : Int) (j.natAbs : Int) = Int.gcd i j := by simp [Int.gcd]
  have n : now = ((Int.gcd i j : Nat) : Int) := by have := W.n0; omega
  refine ⟨n, ?_, by have := W.cx; split <;> simpa using this, by have := W.cy; split <;> simpa using this⟩
  rw [← n, ← W.e1]
  have h1 : (j.natAbs : Int) = if j < 0 then -j else j := by split <;> omega
  have h2 : (i.natAbs : Int) = if i < 0 then -i else i := by split <;> omega
  rw [h1, h2]
  split <;> split <;> grind
abbrev N__law_bezout : List Str := ["_law_left", "_law_right", "_law_row", "_law_times_in", "_law_rest", "_law_k"]
theorem sc__law_bezout : FnScope N__law_bezout ["_law_left", "_law_right"] (defScope S__law_bezout) := ⟨rfl, rfl, rfl, by decide +kernel, rfl, by decide +kernel, by decide +kernel⟩
theorem ok__law_bezout (T : Tx K mg)   : Ok P w K mg base 1 "_law_bezout" ["_law_left", "_law_right"] spBez := by
  obtain ⟨fd, F⟩ := T.f__law_bezout
  have sc := sc__law_bezout
  refine okFN (F := F) T.g__law_bezout F.kp (F.bindsN fun _ _ _ _ _ _ us hl => match us, hl with | [_, _], _ => rfl) sc sp2_len (fun cdv A outer s H vs Q E hr h => ?_)
  obtain ⟨u, v, rfl, h⟩ := h
  refine ⟨_, (pss_cons (ps_set (i := 2) sc.nd rfl (Or.inr rfl) (pe_lst (pa_cons (pe_callB call_abs (by rfl) T.b_abs (by decide +kernel) (pa_cons (pv 0) pa_nil)) (pa_cons pe_int (pa_cons pe_int (pa_cons (pe_callB call_abs (by rfl) T.b_abs (by decide +kernel) (pa_cons (pv 1) pa_nil)) (pa_cons pe_int (pa_cons pe_int pa_nil))))))))
      (pss_cons (ps_while PassesOwn.never (pt_cmpR op_gt (pe_ix ix_list (pv 2) pe_int (fun _ _ => rfl)) pe_int (nomark _)) (pss_cons (ps_set (i := 3) sc.nd rfl (Or.inr rfl) (pe_op op_fdivW (pe_ix ix_list (pv 2) pe_int (fun _ _ => rfl)) (pe_ix ix_list (pv 2) pe_int (fun _ _ => rfl))))
      (pss_cons (ps_setLc (i := 4) rfl sc.nd rfl rfl (sw_true rfl rfl rfl (by decide +kernel)) (pi_range1 (by rfl) T.b_range (pa_cons pe_int pa_nil)) (blkOk_by (N := N__law_bezout) (sc := defScope S__law_bezout) (own := [("_law_k", 5)]) (by decide +kernel)) (fun _ _ _ _ _ => (pg_name (i := 5) sc.nd rfl (Or.inl rfl))) (fun _ _ _ _ _ => pts_nil) (fun _ _ _ _ _ => (pe_op op_sub (pe_ix (ix_listK (K := K) rfl) (pv 2) (pv 5) (fun _ _ => rfl)) (pe_op op_mulW (pv 3) (pe_ix (ix_listK (K := K) rfl) (pv 2) (pe_op op_add (pv 5) pe_int) (fun _ _ => rfl))))))
      (pss_one (ps_set (i := 2) sc.nd rfl (Or.inr rfl) (pe_op op_cat (pe_slice sl_list (pv 2) (po_some pe_int) po_none) (pv 4)))))))
      (pss_cons (ps_if (pt_cmpR op_lt (pv 0) pe_int (nomark _)) (pss_one (ps_asg (pe_un un_neg (pe_ix ix_list (pv 2) pe_int (fun _ _ => rfl))) (pg_sub (pv 2) pe_int set_list))) pss_nil)
      (pss_cons (ps_if (pt_cmpR op_lt (pv 1) pe_int (nomark _)) (pss_one (ps_asg (pe_un un_neg (pe_ix ix_list (pv 2) pe_int (fun _ _ => rfl))) (pg_sub (pv 2) pe_int set_list))) pss_nil)
      (pss_one (ps_ret (pe_tup (pa_cons (pe_ix ix_list (pv 2) pe_int (fun _ _ => rfl)) (pa_cons (pe_ix ix_list (pv 2) pe_int (fun _ _ => rfl)) (pa_cons (pe_ix ix_list (pv 2) pe_int (fun _ _ => rfl)) pa_nil)))))))))), ?_⟩
  obtain ⟨i, j, rfl, rfl, bi, bj, h⟩ := h
  have s4 : ((i.natAbs : Int) + (j.natAbs : Int)).natAbs < 2 ^ 4401 := sum4 (i := (i.natAbs : Int)) (by simpa using bi) bj
  refine ⟨_, rfl, _, rfl, _, rfl, _, rfl, line6, fun p0 hp0 => ?_⟩
  rw [nabs i, nabs j] at *
  let Wn : Nat → L2.St → Hp → Prop := fun m σ H' => Same H H' ∧ ∃ now after x nx y ny l o3 o4, σ = [some (.int i), some (.int j), some (.ref l), o3, o4, none] ∧ H l = none ∧ H' l = some (.lst (R6 now x y after nx ny)) ∧ Wd (i.natAbs : Int) (j.natAbs : Int) now after x nx y ny ∧ m = after.toNat
  try dsimp only
  refine seq_intro (fun σ' H' => ∃ now x nx y ny l o3 o4, σ' = [some (.int i), some (.int j), some (.ref l), o3, o4, none] ∧ Same H H' ∧ H l = none ∧ H' l = some (.lst (R6 now x y 0 nx ny)) ∧ Wd (i.natAbs : Int) (j.natAbs : Int) now 0 x nx y ny) (fun R hR => ?_) ?_
  · refine ⟨Wn, ⟨_, same_new hp0, _, _, _, _, _, _, _, _, _, rfl, hp0, upd_same, wd_start (by omega) (by omega), rfl⟩, ?_⟩
    rintro m σ H' ⟨sm, now, after, x, nx, y, ny, l, o3, o4, rfl, l0, hl, W, rfl⟩
    refine ⟨_, rfl, l, _, _, _, rfl, rfl, SqL.of hl, ga3, _, _, rfl, rfl, _, rfl, ifD (fun pos => ?_) (fun npos => ?_)⟩
    · have hp : 0 < after := pos
      have hne : after ≠ 0 := by omega
      have ba : after.natAbs < 2 ^ 4402 := small4 W.a0 W.ca s4
      have bq := quo4 W.n0 W.cn hp s4
      have bx : nx.natAbs < 2 ^ 4402 := near4 (by simpa using W.cnx) bj
      have by_ : ny.natAbs < 2 ^ 4402 := near4 (by simpa using W.cny) bi
      refine ⟨fun σ' H' => ∃ m', m' < after.toNat ∧ Wn m' σ' H', fun _ _ z => z, ?_⟩
      refine ⟨_, rfl, l, _, _, _, rfl, rfl, SqL.of hl, at_0, _, rfl, l, _, _, _, rfl, rfl, SqL.of hl, ga3, _, _, rfl, rfl, cdiv hp ba, ?_⟩
      refine ⟨3, rfl, by decide, by decide, fun D hD => ?_⟩
      refine lc_mapR (R := fun k y0 _ => y0 = .int ([now - now / after * after, x - now / after * nx, y - now / after * ny].getD k 0)) (fun _ _ _ _ _ z => z) hD (by decide) (fun k Hx hk sx kk hkk => ?_) (fun H3 ys s3 hy hn hr3 => ?_)
      · have hlx := sx _ _ hl
        have hk : k < 3 := hk
        have : k = 0 ∨ k = 1 ∨ k = 2 := by omega
        rcases this with rfl | rfl | rfl
        · exact ⟨rfl, _, rfl, _, rfl, l, _, _, _, rfl, rfl, SqL.of hlx, at_0, _, rfl, _, rfl, _, rfl, _, _, rfl, rfl, l, _, _, _, rfl, rfl, SqL.of hlx, ga3, _, _, rfl, rfl, cmul bq ba, _, _, rfl, rfl, hkk _ _ Same.rfl' rfl⟩
        · exact ⟨rfl, _, rfl, _, rfl, l, _, _, _, rfl, rfl, SqL.of hlx, at_1, _, rfl, _, rfl, _, rfl, _, _, rfl, rfl, l, _, _, _, rfl, rfl, SqL.of hlx, ga4, _, _, rfl, rfl, cmul bq bx, _, _, rfl, rfl, hkk _ _ Same.rfl' rfl⟩
        · exact ⟨rfl, _, rfl, _, rfl, l, _, _, _, rfl, rfl, SqL.of hlx, at_2, _, rfl, _, rfl, _, rfl, _, _, rfl, rfl, l, _, _, _, rfl, rfl, SqL.of hlx, ga5, _, _, rfl, rfl, cmul bq by_, _, _, rfl, rfl, hkk _ _ Same.rfl' rfl⟩
      · have ey := three_of (f := fun k => [now - now / after * after, x - now / after * nx, y - now / after * ny].getD k 0) hn hr3
        rw [ey] at hy
        have hl3 := s3 _ _ hl
        refine ⟨_, rfl, _, rfl, l, _, rfl, SqL.of hl3, fun p hp' => ?_⟩
        have n1 := same_new (o := .lst (cutV (R6 now x y after nx ny) (some 3) none)) hp'
        refine ⟨_, rfl, p, D, _, _, rfl, rfl, upd_same, n1 _ _ hy, by show 6 ≤ sizeLine; decide, fun q hq => ?_⟩
        have W2 := wd_step W hne
        have lt : (now - now / after * after) < after := by
          have := Int.mul_ediv_add_emod now after
          have h2 := Int.emod_lt_of_pos now hp
          rw [Int.mul_comm] at this
          omega
        have sm3 := Same.trans' (Same.trans' sm s3) n1
        refine ⟨(now - now / after * after).toNat, by have := W2.a0; omega, Same.new sm3 hq, _, _, _, _, _, _, q, _, _, rfl, none_of sm3 hq, upd_same, W2, rfl⟩
    · have z : after = 0 := by
        have := W.a0
        have npos : ¬ 0 < after := npos
        omega
      subst z
      exact hR _ _ ⟨_, _, _, _, _, _, _, _, rfl, sm, l0, hl, W⟩
  · rintro σ' H' ⟨now, x, nx, y, ny, l, o3, o4, rfl, sm, l0, hl, W⟩
    obtain ⟨e1, e2, e3, e4⟩ := bez_end W
    subst e1
    try dsimp only
    refine seq_intro (fun σ' H2 => σ' = [some (.int i), some (.int j), some (.ref l), o3, o4, none] ∧ Same H H2 ∧ H2 l = some (.lst (R6 ((Int.gcd i j : Nat) : Int) (if i < 0 then -x else x) y 0 nx ny))) (fun R hR => ?_) ?_
    · refine ⟨_, rfl, _, _, rfl, rfl, _, rfl, ifD (fun c1 => ?_) (fun c1 => ?_)⟩
      · refine ⟨_, rfl, l, _, _, _, rfl, rfl, SqL.of hl, at_1, _, rfl, _, rfl, l, _, _, 1, rfl, rfl, hl, rfl, ?_⟩
        refine hR _ _ ⟨rfl, Same.own l0 sm, ?_⟩
        rw [if_pos c1]; exact upd_same
      · refine hR _ _ ⟨rfl, sm, ?_⟩
        rw [if_neg c1]; exact hl
    · rintro σ' H2 ⟨rfl, sm2, hl2⟩
      generalize (if i < 0 then -x else x) = X at *
      try dsimp only
      refine seq_intro (fun σ' H2 => σ' = [some (.int i), some (.int j), some (.ref l), o3, o4, none] ∧ Same H H2 ∧ H2 l = some (.lst (R6 ((Int.gcd i j : Nat) : Int) X (if j < 0 then -y else y) 0 nx ny))) (fun R hR => ?_) ?_
      · refine ⟨_, rfl, _, _, rfl, rfl, _, rfl, ifD (fun c1 => ?_) (fun c1 => ?_)⟩
        · refine ⟨_, rfl, l, _, _, _, rfl, rfl, SqL.of hl2, at_2, _, rfl, _, rfl, l, _, _, 2, rfl, rfl, hl2, rfl, ?_⟩
          refine hR _ _ ⟨rfl, Same.own l0 sm2, ?_⟩
          rw [if_pos c1]; exact upd_same
        · refine hR _ _ ⟨rfl, sm2, ?_⟩
          rw [if_neg c1]; exact hl2
      · rintro σ' H3 ⟨rfl, sm3, hl3⟩
        generalize (if j < 0 then -y else y) = Y at *
        exact ⟨_, rfl, l, _, _, _, rfl, rfl, SqL.of hl3, at_0, _, rfl, l, _, _, _, rfl, rfl, SqL.of hl3, at_1, _, rfl, l, _, _, _, rfl, rfl, SqL.of hl3, at_2, line3, fun p hp => (h X Y e2 e3 e4).at sm3 hp⟩
end
end Wk
set_option maxHeartbeats 4000000
namespace Wk
open PySem PySem.Spec PyProof.Rows L2
section
variable {P : Program} {w : World} {K : PySem.W.Frag} {mg : Str → Option Value} {base : Heap}
def spLawRule : Sp := sp1 fun a H Q _ => ∃ l xs d0 dr, a = .ref l ∧ H l = some (.lst xs) ∧ RowsF H xs (d0 :: dr) ∧ dr.length ≤ 5 ∧ (∀ d ∈ d0 :: dr, Big d.1 ∧ Big d.2) ∧ (∀ d ∈ diffs d0 dr, Sz 18 d.1 ∧ Sz 40 d.2) ∧
  ∀ R v H', Same H H' → RuleFor (Md (diffs d0 dr)) R → RuleV H' v R → Q v H'
/-- base: None, or the fraction -/
def BaseV (H : Hp) (v : V) : Option Rat → Prop
  | none => v = .non
  | some b => FrV H v b
theorem BaseV.mono {H H' : Hp} {v : V} {b : Option Rat} (h : BaseV H v b) (s : Same H H') : BaseV H' v b := by
  cases b with
  | none => exact h
  | some b => exact FrV.mono h s
/-- sizes behind some rows, e = 2 ^ i -/
def BSz (e : Nat) (b : Option Rat) (st : Rat) : Prop := match b with
  | none => True
  | some b => 2 ≤ e ∧ Sz (36 * e) b ∧ Sz (18 * e - 18) st
theorem md_take {ds : List Rw} {i : Nat} {m : Rat} (h : Md ds m) : Md (ds.take i) m := fun d hd => h d (List.mem_of_mem_take hd)
theorem never_take {ds : List Rw} {i : Nat} (h : ∀ m, ¬ Md (ds.take i) m) : RuleFor (Md ds) none := fun m z => h m (md_take z)
theorem dvd_mod {a b : Int} : a % b = 0 ↔ b ∣ a := (Int.dvd_iff_emod_eq_zero).symm
theorem bez_lt {u : Int} {a k : Nat} (h : u.natAbs ≤ a + 1) (ha : a < 2 ^ k) : u.natAbs < 2 ^ (k + 1) := by
  rw [Nat.pow_succ]
  have : 0 < 2 ^ k := Nat.two_pow_pos _
  omega
theorem per_sz2 {r : Rat} (h : Sz 18 r) (r0 : r ≠ 0) : Sz 18 (absR (1 / r)) := by
  have hf := frO_per r0
  injection hf with hf
  injection hf with h1 hf
  injection hf with h2 _
  injection h1 with h1
  injection h2 with h2
  have n1 := h.1
  have n2 := h.2
  refine ⟨by rw [h1]; simpa using n2, ?_⟩
  have : (absR (1 / r)).den = r.num.natAbs := by
    have : ((absR (1 / r)).den : Int) = (r.num.natAbs : Int) := by rw [h2]; split <;> omega
    exact_mod_cast this
  rw [this]; exact n1
abbrev N__law_rule : List Str := ["_law_rows", "_law_base", "_law_step", "_law_row", "_law_rate", "_law_gap", "_law_move", "_law_left", "_law_need", "_law_count_of"]
theorem sc__law_rule : FnScope N__law_rule ["_law_rows"] (defScope S__law_rule) := ⟨rfl, rfl, rfl, by decide +kernel, rfl, by decide +kernel, by decide +kernel⟩
theorem ok__law_rule (T : Tx K mg) (d__law_minus : Ok P w K mg base 3 "_law_minus" ["_law_left", "_law_right"] (spBinL (fun x y => x - y))) (d__law_times : Ok P w K mg base 3 "_law_times" ["_law_left", "_law_right"] (spBinL (fun x y => x * y))) (d__law_floor : Ok P w K mg base 1 "_law_floor" ["_law_value"] spFloor) (d__law_over : Ok P w K mg base 3 "_law_over" ["_law_left", "_law_right"] (spBinL (fun x y => x / y))) (d__law_plus : Ok P w K mg base 3 "_law_plus" ["_law_left", "_law_right"] (spBinL (fun x y => x + y))) (d__law_bezout : Ok P w K mg base 1 "_law_bezout" ["_law_left", "_law_right"] spBez)  : Ok P w K mg base 4 "_law_rule" ["_law_rows"] spLawRule := by
  obtain ⟨fd, F⟩ := T.f__law_rule
  have sc := sc__law_rule
  refine okFN (F := F) T.g__law_rule F.kp (F.bindsN fun _ _ _ _ _ _ us hl => match us, hl with | [_], _ => rfl) sc sp1_len (fun cdv A outer s H vs Q E hr h => ?_)
  obtain ⟨u, rfl, h⟩ := h
  refine ⟨_, (pss_cons (ps_set (i := 1) sc.nd rfl (Or.inl rfl) pe_non)
      (pss_cons (ps_set (i := 2) sc.nd rfl (Or.inl rfl) (pe_tup (pa_cons pe_int (pa_cons pe_int pa_nil))))
      (pss_cons (ps_for PassesOwn.never rfl (pi_list (pe_slice sl_list (pv 0) (po_some pe_int) po_none)) (pg_name (i := 3) sc.nd rfl (Or.inl rfl)) (pss_cons (ps_set (i := 4) sc.nd rfl (Or.inl rfl) (pe_f d__law_minus (hr.mono (by decide)) rfl passL (pa_cons (pe_ix ix_tup (pv 3) pe_int (fun _ _ => rfl)) (pa_cons (pe_ix ix_tup (pe_ix ix_list (pv 0) pe_int (fun _ _ => rfl)) pe_int (fun _ _ => rfl)) pa_nil))))
      (pss_cons (ps_set (i := 5) sc.nd rfl (Or.inl rfl) (pe_f d__law_minus (hr.mono (by decide)) rfl passL (pa_cons (pe_ix ix_tup (pv 3) pe_int (fun _ _ => rfl)) (pa_cons (pe_ix ix_tup (pe_ix ix_list (pv 0) pe_int (fun _ _ => rfl)) pe_int (fun _ _ => rfl)) pa_nil))))
      (pss_one (ps_if (pt_cmpR op_eq (pe_ix ix_tup (pv 4) pe_int (fun _ _ => rfl)) pe_int (nomark _)) (pss_one (ps_if (pt_cmpR op_ne (pe_ix ix_tup (pv 5) pe_int (fun _ _ => rfl)) pe_int (nomark _)) (pss_one (ps_ret pe_non)) pss_nil)) (pss_one (ps_if (pt_cmpR op_isN (pv 1) pe_non (nomark _)) (pss_cons (ps_set (i := 1) sc.nd rfl (Or.inl rfl) (pe_f d__law_minus (hr.mono (by decide)) rfl passL (pa_cons (pe_tup (pa_cons pe_int (pa_cons pe_int pa_nil))) (pa_cons (pe_f d__law_over (hr.mono (by decide)) rfl passL (pa_cons (pv 5) (pa_cons (pv 4) pa_nil))) pa_nil))))
      (pss_one (ps_set (i := 2) sc.nd rfl (Or.inl rfl) (pe_tup (pa_cons (pe_ix ix_tup (pv 4) pe_int (fun _ _ => rfl)) (pa_cons (pe_callB call_abs (by rfl) T.b_abs (by decide +kernel) (pa_cons (pe_ix ix_tup (pv 4) pe_int (fun _ _ => rfl)) pa_nil)) pa_nil)))))) (pss_cons (ps_set (i := 6) sc.nd rfl (Or.inl rfl) (pe_f d__law_times (hr.mono (by decide)) rfl passL (pa_cons (pv 4) (pa_cons (pv 2) pa_nil))))
      (pss_cons (ps_set (i := 7) sc.nd rfl (Or.inl rfl) (pe_f d__law_plus (hr.mono (by decide)) rfl passL (pa_cons (pe_f d__law_times (hr.mono (by decide)) rfl passL (pa_cons (pv 4) (pa_cons (pv 1) pa_nil))) (pa_cons (pv 5) pa_nil))))
      (pss_cons (ps_if (pt_cmpR op_ne (pe_op op_mod (pe_callTy call_int1 (by rfl) T.b_int (by decide +kernel) (pa_cons (pe_ix ix_tup (pv 6) pe_int (fun _ _ => rfl)) pa_nil)) (pe_ix ix_tup (pv 7) pe_int (fun _ _ => rfl))) pe_int (nomark _)) (pss_one (ps_ret pe_non)) pss_nil)
      (pss_cons (ps_set (i := 8) sc.nd rfl (Or.inl rfl) (pe_op op_mulW (pe_un un_neg (pe_ix ix_tup (pv 7) pe_int (fun _ _ => rfl))) (pe_op op_fdivW (pe_ix ix_tup (pv 6) pe_int (fun _ _ => rfl)) (pe_ix ix_tup (pv 7) pe_int (fun _ _ => rfl)))))
      (pss_cons (ps_set (i := 9) sc.nd rfl (Or.inl rfl) (pe_op op_mod (pe_callTy call_int1 (by rfl) T.b_int (by decide +kernel) (pa_cons (pe_op op_mulW (pv 8) (pe_ix ix_tup (pe_f d__law_bezout (hr.mono (by decide)) rfl passL (pa_cons (pe_ix ix_tup (pv 6) pe_int (fun _ _ => rfl)) (pa_cons (pe_ix ix_tup (pv 6) pe_int (fun _ _ => rfl)) pa_nil))) pe_int (fun _ _ => rfl))) pa_nil)) (pe_ix ix_tup (pv 6) pe_int (fun _ _ => rfl))))
      (pss_cons (ps_set (i := 1) sc.nd rfl (Or.inl rfl) (pe_f d__law_plus (hr.mono (by decide)) rfl passL (pa_cons (pv 1) (pa_cons (pe_f d__law_times (hr.mono (by decide)) rfl passL (pa_cons (pv 2) (pa_cons (pe_tup (pa_cons (pv 9) (pa_cons pe_int pa_nil))) pa_nil))) pa_nil))))
      (pss_one (ps_set (i := 2) sc.nd rfl (Or.inl rfl) (pe_f d__law_times (hr.mono (by decide)) rfl passL (pa_cons (pv 2) (pa_cons (pe_tup (pa_cons (pe_ix ix_tup (pv 6) pe_int (fun _ _ => rfl)) (pa_cons pe_int pa_nil))) pa_nil))))))))))))))))))
      (pss_cons (ps_if (pt_cmpR op_isN (pv 1) pe_non (nomark _)) (pss_one (ps_ret (pe_tup (pa_cons (pe_tup (pa_cons pe_int (pa_cons pe_int pa_nil))) (pa_cons pe_non pa_nil))))) pss_nil)
      (pss_one (ps_ret (pe_tup (pa_cons (pe_f d__law_minus (hr.mono (by decide)) rfl passL (pa_cons (pv 1) (pa_cons (pe_f d__law_times (hr.mono (by decide)) rfl passL (pa_cons (pv 2) (pa_cons (pe_tup (pa_cons (pe_f d__law_floor (hr.mono (by decide)) rfl passL (pa_cons (pe_f d__law_over (hr.mono (by decide)) rfl passL (pa_cons (pv 1) (pa_cons (pv 2) pa_nil))) pa_nil)) (pa_cons pe_int pa_nil))) pa_nil))) pa_nil))) (pa_cons (pv 2) pa_nil))))))))), ?_⟩
  obtain ⟨l, xs, d0, dr, rfl, hl, hx, d5, hbig, hsz, h⟩ := h
  have xl := hx.len
  simp only [List.length_cons] at xl
  cases xs with
  | nil => simp at xl
  | cons x0 xr =>
  simp only [List.length_cons] at xl
  obtain ⟨_, e0, t0, p0, q0, rfl, ht0, fp0, fq0⟩ := hx.at_ 0 x0 rfl
  cases e0
  have b0 := hbig d0 List.mem_cons_self
  refine ⟨line2, fun ps hps => ?_⟩
  have n0 := same_new (o := frO 0) hps
  refine ⟨_, rfl, _, rfl, l, _, rfl, SqL.of (n0 _ _ hl), fun l2 hl2 => ?_⟩
  have n1 := Same.new (o := .lst (cutV (.ref t0 :: xr) (some 1) none)) n0 hl2
  refine ⟨l2, rfl, ⟨_, SqL.of upd_same⟩, ?_⟩
  rw [cut1] at *
  refine for_list (xs := xr) (fun i σ H' => ∃ (bv sv : V) (b : Option Rat) (st : Rat) (o3 o4 o5 o6 o7 o8 o9 : Option V), σ = [some (.ref l), some bv, some sv, o3, o4, o5, o6, o7, o8, o9] ∧ (Same H H' ∧ H' l2 = some (.lst xr)) ∧ BaseV H' bv b ∧ FrV H' sv st ∧ Sofar ((diffs d0 dr).take i) b st ∧ BSz (2 ^ i) b st) ?_ ?_ ?_ ?_
  · exact ⟨_, _, none, 0, _, _, _, _, _, _, _, rfl, ⟨n1, upd_same⟩, rfl, FrV.mono ⟨ps, rfl, upd_same⟩ (same_new hl2), sofar_nil 0, trivial⟩
  · rintro i σ H' _ ⟨_, _, _, _, _, _, _, _, _, _, _, _, ⟨_, hh⟩, _⟩
    exact SqL.of hh
  · rintro i v σ H' hi ⟨bv, sv, b, st, o3, o4, o5, o6, o7, o8, o9, rfl, ⟨sm, hl2'⟩, hb, hst, hS, hz⟩
    have il := (List.getElem?_eq_some_iff.mp hi).1
    obtain ⟨d, hd, t, p, q, rfl, ht, fp, fq⟩ := hx.at_ (i + 1) v hi
    have hd : dr[i]? = some d := hd
    have hdi := diffs_get (d0 := d0) hd
    have bsz := hsz _ (List.mem_of_getElem? hdi)
    have bd := hbig d (List.mem_cons_of_mem _ (List.mem_of_getElem? hd))
    have hl' := sm _ _ hl
    have ht' := sm _ _ ht
    have ht0' := sm _ _ ht0
    have tk := take_snoc hdi
    obtain ⟨r, hr_⟩ : ∃ r, r = d.1 - d0.1 := ⟨_, rfl⟩
    obtain ⟨g, hg_⟩ : ∃ g, g = d.2 - d0.2 := ⟨_, rfl⟩
    rw [← hr_, ← hg_] at tk hdi bsz
    try dsimp only
    refine seq_intro (fun σ' H2 => ∃ r1, σ' = [some (.ref l), some bv, some sv, some (.ref t), some (.ref r1), o5, o6, o7, o8, o9] ∧ Same H' H2 ∧ H2 r1 = some (frO r)) (fun R hR => ?_) ?_
    · refine ⟨_, rfl, t, _, _, _, rfl, rfl, SqT.of ht', at_0, _, rfl, l, _, _, _, rfl, rfl, SqL.of hl', at_0, t0, _, _, _, rfl, rfl, SqT.of ht0', at_0, _, _, rfl, d.1, d0.1, fp.mono sm, fp0.mono sm, bd.1, b0.1, fun r1 hr1 => ?_⟩
      exact hR _ _ ⟨r1, rfl, same_new hr1, by rw [hr_]; exact upd_same⟩
    rintro σ' H1 ⟨r1, rfl, m1, hr1⟩
    refine seq_intro (fun σ' H2 => ∃ r2, σ' = [some (.ref l), some bv, some sv, some (.ref t), some (.ref r1), some (.ref r2), o6, o7, o8, o9] ∧ Same H1 H2 ∧ H2 r2 = some (frO g)) (fun R hR => ?_) ?_
    · refine ⟨_, rfl, t, _, _, _, rfl, rfl, SqT.of (m1 _ _ ht'), at_1, _, rfl, l, _, _, _, rfl, rfl, SqL.of (m1 _ _ hl'), at_0, t0, _, _, _, rfl, rfl, SqT.of (m1 _ _ ht0'), at_1, _, _, rfl, d.2, d0.2, (fq.mono sm).mono m1, (fq0.mono sm).mono m1, bd.2, b0.2, fun r2 hr2 => ?_⟩
      exact hR _ _ ⟨r2, rfl, same_new hr2, by rw [hg_]; exact upd_same⟩
    rintro σ' H2 ⟨r2, rfl, m12, hr2⟩
    have m2 := Same.trans' m1 m12
    have hr1v := m12 _ _ hr1
    have hl22 := m2 _ _ hl2'
    have hst2 := hst.mono m2
    have s2 := Same.trans' sm m2
    refine ⟨_, rfl, r1, _, _, _, rfl, rfl, sq2 hr1v, at_0, rfl, _, rfl, ifEq (fun e => ?_) (fun e => ?_)⟩
    · have z : r = 0 := Rat.num_eq_zero.mp e
      refine ⟨_, rfl, r2, _, _, _, rfl, rfl, sq2 hr2, at_1, rfl, _, rfl, ifNe (fun ne => ?_) (fun e1 => ?_)⟩
      · refine h none .non _ s2 ?_ rfl
        refine never_take (i := i + 1) ?_
        rw [tk]
        exact sofar_never z (fun w => ne (den_one.mpr w))
      · refine ⟨bv, sv, b, st, _, _, _, _, _, _, _, rfl, ⟨s2, hl22⟩, hb.mono m2, hst2, ?_, ?_⟩
        · rw [tk]; exact sofar_still hS z (den_one.mp e1)
        · cases b with
          | none => trivial
          | some b =>
            have e2 : 2 ^ (i + 1) = 2 ^ i * 2 := Nat.pow_succ ..
            exact ⟨by have := hz.1; omega, hz.2.1.mono (by omega), hz.2.2.mono (by omega)⟩
    have r0 : r ≠ 0 := fun z => e (by rw [z]; rfl)
    cases b with
    | none =>
      have hbv : bv = .non := hb
      subst hbv
      refine ⟨_, rfl, rfl, _, rfl, ifD (fun _ => ?_) (fun n => absurd rfl n)⟩
      have z1 : Sz 1 (0 : Rat) := ⟨by decide, by decide⟩
      have bq := bsz.2.div bsz.1 r0
      try dsimp only
      refine seq_intro (fun σ' H3 => ∃ r5, σ' = [some (.ref l), some (.ref r5), some sv, some (.ref t), some (.ref r1), some (.ref r2), o6, o7, o8, o9] ∧ Same H2 H3 ∧ H3 r5 = some (frO (0 - g / r))) (fun R hR => ?_) ?_
      · refine ⟨line2, fun r3 hr3 => ?_⟩
        have k3 := same_new (o := frO 0) hr3
        refine ⟨_, rfl, _, rfl, _, _, rfl, g, r, ⟨r2, rfl, k3 _ _ hr2⟩, ⟨r1, rfl, k3 _ _ hr1v⟩, bsz.2.mono (by decide), bsz.1.mono (by decide), fun r4 hr4 => ?_⟩
        have k4 := Same.new (o := frO (g / r)) k3 hr4
        refine ⟨_, _, rfl, 0, g / r, FrV.mono ⟨r3, rfl, upd_same⟩ (same_new hr4), ⟨r4, rfl, upd_same⟩, z1.mono (by decide), bq.mono (by decide), fun r5 hr5 => ?_⟩
        exact hR _ _ ⟨r5, rfl, Same.new k4 hr5, upd_same⟩
      rintro σ' H3 ⟨r5, rfl, k5, hr5⟩
      refine ⟨_, rfl, r1, _, _, _, rfl, rfl, sq2 (k5 _ _ hr1v), at_1, _, rfl, r1, _, _, _, rfl, rfl, sq2 (k5 _ _ hr1v), at_0, _, rfl, line2, fun r6 hr6 => ?_⟩
      rw [← frO_per r0]
      have k6 := same_new (o := frO (absR (1 / r))) hr6
      have all := Same.trans' k5 k6
      refine ⟨_, _, some (0 - g / r), absR (1 / r), _, _, _, _, _, _, _, rfl, ⟨Same.trans' s2 all, all _ _ hl22⟩, ⟨r5, rfl, k6 _ _ hr5⟩, ⟨r6, rfl, upd_same⟩, ?_, ?_⟩
      · rw [tk]
        exact sofar_first (d := (r, g)) hS r0 per_cases (absR_pos (inv_ne r0))
      · have e2 : 2 ^ (i + 1) = 2 ^ i * 2 := Nat.pow_succ ..
        have e3 : 0 < 2 ^ i := Nat.two_pow_pos _
        exact ⟨by omega, (z1.sub bq).mono (by omega), (per_sz2 bsz.1 r0).mono (by omega)⟩
    | some b =>
      obtain ⟨e2, zb, zs⟩ := hz
      have e16 : 2 ^ i ≤ 16 := by
        have : 2 ^ i ≤ 2 ^ 4 := Nat.pow_le_pow_right (by decide) (by omega)
        simpa using this
      have ee : 2 ^ (i + 1) = 2 ^ i * 2 := Nat.pow_succ ..
      generalize hE : 2 ^ i = e at *
      obtain ⟨bp, rfl, hbp⟩ := id (show FrV H' bv b from hb)
      have hbp2 := m2 _ _ hbp
      refine ⟨_, rfl, rfl, _, rfl, ifD (fun z => by cases z) (fun _ => ?_)⟩
      have br := bsz.1
      have zmv := br.mul zs
      have zrb := br.mul zb
      have zlf := zrb.add bsz.2
      try dsimp only
      refine seq_intro (fun σ' H3 => ∃ r3, σ' = [some (.ref l), some (.ref bp), some sv, some (.ref t), some (.ref r1), some (.ref r2), some (.ref r3), o7, o8, o9] ∧ Same H2 H3 ∧ H3 r3 = some (frO (r * st))) (fun R hR => ?_) ?_
      · refine ⟨_, rfl, _, rfl, _, _, rfl, r, st, ⟨r1, rfl, hr1v⟩, hst2, br.mono (by decide), zs.mono (by omega), fun r3 hr3 => ?_⟩
        exact hR _ _ ⟨r3, rfl, same_new hr3, upd_same⟩
      rintro σ' H3 ⟨r3, rfl, k3, hr3⟩
      refine seq_intro (fun σ' H4 => ∃ r5, σ' = [some (.ref l), some (.ref bp), some sv, some (.ref t), some (.ref r1), some (.ref r2), some (.ref r3), some (.ref r5), o8, o9] ∧ Same H3 H4 ∧ H4 r5 = some (frO (r * b + g))) (fun R hR => ?_) ?_
      · refine ⟨_, rfl, _, rfl, _, _, rfl, r, b, ⟨r1, rfl, k3 _ _ hr1v⟩, ⟨bp, rfl, k3 _ _ hbp2⟩, br.mono (by decide), zb.mono (by omega), fun r4 hr4 => ?_⟩
        have q4 := same_new (o := frO (r * b)) hr4
        refine ⟨_, rfl, _, _, rfl, r * b, g, ⟨r4, rfl, upd_same⟩, ⟨r2, rfl, q4 _ _ (k3 _ _ hr2)⟩, zrb.mono (by omega), bsz.2.mono (by decide), fun r5 hr5 => ?_⟩
        exact hR _ _ ⟨r5, rfl, Same.new q4 hr5, upd_same⟩
      rintro σ' H4 ⟨r5, rfl, k34, hr5⟩
      have k4 := Same.trans' k3 k34
      have hmv := k34 _ _ hr3
      obtain ⟨lf, hlf⟩ : ∃ lf, lf = r * b + g := ⟨_, rfl⟩
      obtain ⟨mv, hmv_⟩ : ∃ mv, mv = r * st := ⟨_, rfl⟩
      have hSa := fun w => sofar_apart (d := (r, g)) hS w
      have hSn := fun u v' dv hu => sofar_next (d := (r, g)) (u := u) (v := v') hS dv hu
      rw [← hlf] at hr5 zlf
      rw [← hmv_] at hmv zmv
      have hSa' : ¬ ((lf.den : Int) ∣ (mv.den : Int)) → ∀ m, ¬ Md ((diffs d0 dr).take i ++ [(r, g)]) m := by rw [hlf, hmv_]; exact hSa
      have hSn' : ∀ u v' : Int, ((lf.den : Int) ∣ (mv.den : Int)) → u * mv.num + v' * (mv.den : Int) = 1 → Sofar ((diffs d0 dr).take i ++ [(r, g)]) (some (b + st * (((-lf.num * ((mv.den : Int) / (lf.den : Int)) * u) % (mv.den : Int) : Int) : Rat))) (st * (mv.den : Rat)) := by
        rw [hlf, hmv_]; exact hSn
      clear hSa hSn hlf hmv_
      have hst4 := hst2.mono k4
      have hb4 := k4 _ _ hbp2
      have hl24 := k4 _ _ hl22
      have s4 := Same.trans' s2 k4
      refine ⟨_, rfl, r3, _, _, _, rfl, rfl, sq2 hmv, at_1, .inl ⟨_, rfl, _, rfl, r5, _, _, _, rfl, rfl, sq2 hr5, at_1, _, _, rfl, rfl, den_gt _, rfl, _, rfl, ifNe (fun ne => ?_) (fun e1 => ?_)⟩⟩
      · refine h none .non _ s4 ?_ rfl
        refine never_take (i := i + 1) ?_
        rw [tk]
        exact hSa' (fun w => ne (dvd_mod.mpr w))
      have dv := dvd_mod.mp e1
      have bdm : ((mv.den : Int) / (lf.den : Int)).natAbs < 2 ^ (18 + (18 * e - 18)) := ediv_lt zmv.d (Int.natCast_nonneg _) (Int.natCast_nonneg _)
      have blf : (-lf.num).natAbs < 2 ^ (18 + 36 * e + 40 + 1) := by rw [Int.natAbs_neg]; exact zlf.1
      refine ⟨_, rfl, r5, _, _, _, rfl, rfl, sq2 hr5, at_0, _, rfl, _, rfl, r3, _, _, _, rfl, rfl, sq2 hmv, at_1, _, rfl, r5, _, _, _, rfl, rfl, sq2 hr5, at_1, _, _, rfl, rfl, cdiv (den_gt _) zlf.d (by omega) (by omega), _, _, rfl, rfl, cmul blf bdm (by omega) (by omega) (by omega), ?_⟩
      have bneed := lt_mul blf bdm
      obtain ⟨nd, hnd⟩ : ∃ nd, nd = -lf.num * ((mv.den : Int) / (lf.den : Int)) := ⟨_, rfl⟩
      rw [← hnd] at bneed
      try dsimp only
      refine seq_intro (fun σ' H5 => ∃ cn : Int, σ' = [some (.ref l), some (.ref bp), some sv, some (.ref t), some (.ref r1), some (.ref r2), some (.ref r3), some (.ref r5), some (.int nd), some (.int cn)] ∧ Same H4 H5 ∧ cn.natAbs < 2 ^ (18 + (18 * e - 18)) ∧ Sofar ((diffs d0 dr).take i ++ [(r, g)]) (some (b + st * (cn : Rat))) (st * (mv.den : Rat))) (fun R hR => ?_) ?_
      · refine ⟨_, rfl, _, rfl, r3, _, _, _, rfl, rfl, sq2 hmv, at_0, _, rfl, r3, _, _, _, rfl, rfl, sq2 hmv, at_1, _, _, rfl, mv.num, (mv.den : Int), rfl, rfl, upto zmv.1 (by omega), upto zmv.d (by omega), fun u v' huv bu _ pb H7 s7 hpb => ?_⟩
        have bu2 := bez_lt bu zmv.d
        have hmv7 := s7 _ _ hmv
        rw [hnd] at bneed
        refine ⟨pb, _, _, _, rfl, rfl, SqT.of hpb, at_1, _, _, rfl, rfl, cmul bneed bu2 (by omega) (by omega) (by omega), .inl ⟨_, rfl, _, rfl, r3, _, _, _, rfl, rfl, sq2 hmv7, at_1, _, _, rfl, rfl, den_gt _, ?_⟩⟩
        refine hR _ _ ⟨_, by rw [hnd]; rfl, s7, ?_, hSn' u v' dv (by rw [huv, red]; rfl)⟩
        have a1 := Int.emod_nonneg (-lf.num * ((mv.den : Int) / (lf.den : Int)) * u) (den_ne mv)
        have a2 := Int.emod_lt_of_pos (-lf.num * ((mv.den : Int) / (lf.den : Int)) * u) (den_gt mv)
        have a3 := zmv.2
        omega
      rintro σ' H5 ⟨cn, rfl, k45, bcn, hN⟩
      have zc : Sz (18 + (18 * e - 18)) ((cn : Int) : Rat) := Sz.int bcn (by omega)
      have zsc := zs.mul zc
      have zb' := zb.add zsc
      refine seq_intro (fun σ' H6 => ∃ r10, σ' = [some (.ref l), some (.ref r10), some sv, some (.ref t), some (.ref r1), some (.ref r2), some (.ref r3), some (.ref r5), some (.int nd), some (.int cn)] ∧ Same H5 H6 ∧ H6 r10 = some (frO (b + st * (cn : Rat)))) (fun R hR => ?_) ?_
      · refine ⟨_, rfl, _, rfl, _, rfl, line2, fun r8 hr8 => ?_⟩
        have k8 := same_new (o := frO ((cn : Int) : Rat)) hr8
        refine ⟨_, _, rfl, st, ((cn : Int) : Rat), (hst4.mono k45).mono k8, ⟨r8, rfl, upd_same⟩, zs.mono (by omega), zc.mono (by omega), fun r9 hr9 => ?_⟩
        have k9 := Same.new (o := frO (st * ((cn : Int) : Rat))) k8 hr9
        refine ⟨_, _, rfl, b, st * ((cn : Int) : Rat), ⟨bp, rfl, k9 _ _ (k45 _ _ hb4)⟩, ⟨r9, rfl, upd_same⟩, zb.mono (by omega), zsc.mono (by omega), fun r10 hr10 => ?_⟩
        exact hR _ _ ⟨r10, rfl, Same.new k9 hr10, upd_same⟩
      rintro σ' H6 ⟨r10, rfl, k56, hr10⟩
      have k46 := Same.trans' k45 k56
      have zd : Sz (18 + (18 * e - 18)) (((mv.den : Int)) : Rat) := Sz.int zmv.d (by omega)
      refine ⟨_, rfl, _, rfl, r3, _, _, _, rfl, rfl, sq2 (k46 _ _ hmv), at_1, line2, fun r11 hr11 => ?_⟩
      have k11 := same_new (o := frO (((mv.den : Int)) : Rat)) hr11
      refine ⟨_, _, rfl, st, (((mv.den : Int)) : Rat), (hst4.mono k46).mono k11, ⟨r11, rfl, upd_same⟩, zs.mono (by omega), zd.mono (by omega), fun r12 hr12 => ?_⟩
      have k12 := Same.new (o := frO (st * (((mv.den : Int)) : Rat))) k11 hr12
      have k4x := Same.trans' k46 k12
      refine ⟨_, _, some (b + st * (cn : Rat)), st * (((mv.den : Int)) : Rat), _, _, _, _, _, _, _, rfl, ⟨Same.trans' s4 k4x, k4x _ _ hl24⟩, ⟨r10, rfl, k12 _ _ hr10⟩, ⟨r12, rfl, upd_same⟩, ?_, ?_⟩
      · rw [tk, Rat.intCast_natCast]
        exact hN
      · exact ⟨by omega, zb'.mono (by omega), (zs.mul zd).mono (by omega)⟩
  · rintro σ H' ⟨bv, sv, b, st, o3, o4, o5, o6, o7, o8, o9, rfl, ⟨sm, hl2'⟩, hb, hst, hS, hz⟩
    have dl : (diffs d0 dr).length = dr.length := by simp [diffs]
    rw [List.take_of_length_le (by omega)] at hS
    cases b with
    | none =>
      have hbv : bv = .non := hb
      subst hbv
      refine ⟨_, rfl, rfl, _, rfl, ifD (fun _ => ?_) (fun n => absurd rfl n)⟩
      refine ⟨line2, fun p1 hp1 => ⟨line2, fun q1 hq1 => ?_⟩⟩
      exact h _ (.ref q1) _ (Same.new (Same.new sm hp1) hq1) (sofar_all hS) ⟨q1, _, rfl, upd_same, FrV.mono ⟨p1, rfl, upd_same⟩ (same_new (o := .tup [.ref p1, .non]) hq1)⟩
    | some b =>
      obtain ⟨e2, zb, zs⟩ := hz
      have e32 : 2 ^ xr.length ≤ 32 := by
        have : 2 ^ xr.length ≤ 2 ^ 5 := Nat.pow_le_pow_right (by decide) (by omega)
        simpa using this
      generalize hE : 2 ^ xr.length = e at *
      have s0 : st ≠ 0 := by have := hS.1; grind
      obtain ⟨bp, rfl, hbp⟩ := id (show FrV H' bv b from hb)
      refine ⟨_, rfl, rfl, _, rfl, ifD (fun z => by cases z) (fun _ => ?_)⟩
      have zq := zb.div zs s0
      refine ⟨_, rfl, _, rfl, _, rfl, _, rfl, _, _, rfl, b, st, ⟨bp, rfl, hbp⟩, hst, zb.mono (by omega), zs.mono (by omega), fun p1 hp1 => ?_⟩
      have q1 := same_new (o := frO (b / st)) hp1
      refine ⟨_, rfl, b / st, ⟨p1, rfl, upd_same⟩, zq.mono (by omega), line2, fun p2 hp2 => ?_⟩
      have q2 := Same.new (o := frO (((b / st).floor : Int) : Rat)) q1 hp2
      have zf : Sz (36 * e + (18 * e - 18) + 1) (((b / st).floor : Int) : Rat) := Sz.int (floor_lt zq) (by omega)
      refine ⟨_, _, rfl, st, (((b / st).floor : Int) : Rat), hst.mono q2, ⟨p2, rfl, upd_same⟩, zs.mono (by omega), zf.mono (by omega), fun p3 hp3 => ?_⟩
      have q3 := Same.new (o := frO (st * (((b / st).floor : Int) : Rat))) q2 hp3
      refine ⟨_, _, rfl, b, st * (((b / st).floor : Int) : Rat), ⟨bp, rfl, q3 _ _ hbp⟩, ⟨p3, rfl, upd_same⟩, zb.mono (by omega), (zs.mul zf).mono (by omega), fun p4 hp4 => ?_⟩
      have q4 := Same.new (o := frO (b - st * (((b / st).floor : Int) : Rat))) q3 hp4
      refine ⟨_, rfl, line2, fun p5 hp5 => ?_⟩
      have q5 := Same.new (o := .tup [.ref p4, sv]) q4 hp5
      exact h _ (.ref p5) _ (Same.trans' sm q5) (sofar_end hS) ⟨p5, _, _, rfl, upd_same, FrV.mono ⟨p4, rfl, upd_same⟩ (same_new hp5), hst.mono q5⟩
end
end Wk
set_option maxHeartbeats 4000000
namespace Wk
open PySem PySem.Spec PyProof.Rows L2
section
variable {P : Program} {w : World} {K : PySem.W.Frag} {mg : Str → Option Value} {base : Heap}
/-! ### what is due -/
theorem floor_in {x : Rat} {N : Int} (h1 : ((-N : Int) : Rat) ≤ x) (h2 : x < (N : Rat)) : -N ≤ x.floor ∧ x.floor < N := ⟨Rat.le_floor_iff.mpr h1, Rat.floor_lt_iff.mpr h2⟩
theorem quo_in {y I : Rat} (h8 : 1 ≤ 8 * I) (h1 : -2000000000 ≤ y) (h2 : y ≤ 2000000000) : ((-1099511627776 : Int) : Rat) ≤ y / I ∧ y / I < ((1099511627776 : Int) : Rat) := by
  have hI : 0 < I := by grind
  have I0 : I ≠ 0 := by grind
  have e : y / I * I = y := Rat.div_mul_cancel I0
  have c1 : ((-1099511627776 : Int) : Rat) = -1099511627776 := by decide
  have c2 : ((1099511627776 : Int) : Rat) = 1099511627776 := by decide
  rw [c1, c2]
  generalize y / I = q at *
  constructor
  · have : 0 ≤ (q + 1099511627776) * I := by grind
    have := nn_of_mul hI this
    grind
  · have : 0 ≤ (1099511627775 - q) * I := by grind
    have := nn_of_mul hI this
    grind
/-- the numbers of the steps are no great ints -/
structure NumOk (f I a b : Rat) : Prop where
  pI : 0 < I
  i8 : 1 ≤ 8 * I
  i1 : I ≤ 27720
  f0 : 0 ≤ f
  f1 : f < I
  a0 : -1000000144 ≤ a
  ab : a ≤ b
  b1 : b ≤ 1000000144
theorem NumOk.lo {f I a b : Rat} (h : NumOk f I a b) : (loK f I a).natAbs < 2 ^ 50 := by
  have := quo_in (y := f - a) h.i8 (by have := h.f0; have := h.ab; have := h.b1; grind) (by have := h.f1; have := h.i1; have := h.a0; grind)
  have := floor_in this.1 this.2
  unfold loK
  omega
theorem NumOk.hi {f I a b : Rat} (h : NumOk f I a b) : (hiK f I b).natAbs < 2 ^ 50 := by
  have := quo_in (y := b - f) h.i8 (by have := h.f1; have := h.i1; have := h.a0; have := h.ab; grind) (by have := h.f0; have := h.b1; grind)
  have := floor_in this.1 this.2
  unfold hiK
  omega
def spNumbers : Sp := sp2 fun r e H Q _ => ∃ f I a b, RuleV H r (some (f, some I)) ∧ PairV H e (a, b) ∧ Sz 600 f ∧ Sz 600 I ∧ Sz 600 a ∧ Sz 600 b ∧ I ≠ 0 ∧ Gv H (.tup [.int (loK f I a), .int (hiK f I b)]) Q
theorem frO_neg (x : Rat) : HO.tup [.int (-x.num), .int (x.den : Int)] = frO (-x) := rfl
abbrev N__law_numbers_in : List Str := ["_law_rule_here", "_law_ends", "_law_low", "_law_high"]
theorem sc__law_numbers_in : FnScope N__law_numbers_in ["_law_rule_here", "_law_ends"] (defScope S__law_numbers_in) := ⟨rfl, rfl, rfl, by decide +kernel, rfl, by decide +kernel, by decide +kernel⟩
theorem ok__law_numbers_in (T : Tx K mg) (d__law_floor : Ok P w K mg base 1 "_law_floor" ["_law_value"] spFloor) (d__law_over : Ok P w K mg base 3 "_law_over" ["_law_left", "_law_right"] (spBinL (fun x y => x / y))) (d__law_minus : Ok P w K mg base 3 "_law_minus" ["_law_left", "_law_right"] (spBinL (fun x y => x - y)))  : Ok P w K mg base 4 "_law_numbers_in" ["_law_rule_here", "_law_ends"] spNumbers := by
  obtain ⟨fd, F⟩ := T.f__law_numbers_in
  have sc := sc__law_numbers_in
  refine okFN (F := F) T.g__law_numbers_in F.kp (F.bindsN fun _ _ _ _ _ _ us hl => match us, hl with | [_, _], _ => rfl) sc sp2_len (fun cdv A outer s H vs Q E hr h => ?_)
  obtain ⟨u, v, rfl, h⟩ := h
  refine ⟨_, (pss_cons (ps_set (i := 2) sc.nd rfl (Or.inl rfl) (pe_f d__law_over (hr.mono (by decide)) rfl passL (pa_cons (pe_f d__law_minus (hr.mono (by decide)) rfl passL (pa_cons (pe_ix ix_tup (pv 1) pe_int (fun _ _ => rfl)) (pa_cons (pe_ix ix_tup (pv 0) pe_int (fun _ _ => rfl)) pa_nil))) (pa_cons (pe_ix ix_tup (pv 0) pe_int (fun _ _ => rfl)) pa_nil))))
      (pss_cons (ps_set (i := 3) sc.nd rfl (Or.inl rfl) (pe_f d__law_over (hr.mono (by decide)) rfl passL (pa_cons (pe_f d__law_minus (hr.mono (by decide)) rfl passL (pa_cons (pe_ix ix_tup (pv 1) pe_int (fun _ _ => rfl)) (pa_cons (pe_ix ix_tup (pv 0) pe_int (fun _ _ => rfl)) pa_nil))) (pa_cons (pe_ix ix_tup (pv 0) pe_int (fun _ _ => rfl)) pa_nil))))
      (pss_one (ps_ret (pe_tup (pa_cons (pe_un un_neg (pe_f d__law_floor (hr.mono (by decide)) rfl passL (pa_cons (pe_tup (pa_cons (pe_un un_neg (pe_ix ix_tup (pv 2) pe_int (fun _ _ => rfl))) (pa_cons (pe_ix ix_tup (pv 2) pe_int (fun _ _ => rfl)) pa_nil))) pa_nil))) (pa_cons (pe_f d__law_floor (hr.mono (by decide)) rfl passL (pa_cons (pv 3) pa_nil)) pa_nil))))))), ?_⟩
  obtain ⟨f, I, a, b, ⟨t, p, q, rfl, ht, fp, fq⟩, ⟨t2, p2, q2, rfl, ht2, fp2, fq2⟩, bf, bI, ba, bb, I0, h⟩ := h
  have bq1 := (ba.sub bf).div bI I0
  have bq2 := (bb.sub bf).div bI I0
  refine ⟨_, rfl, t2, _, _, _, rfl, rfl, SqT.of ht2, at_0, _, rfl, t, _, _, _, rfl, rfl, SqT.of ht, at_0, _, _, rfl, a, f, fp2, fp, ba.mono (by decide), bf.mono (by decide), fun r1 hr1 => ?_⟩
  have m1 := same_new (o := frO (a - f)) hr1
  refine ⟨_, rfl, t, _, _, _, rfl, rfl, SqT.of (m1 _ _ ht), at_1, _, _, rfl, a - f, I, ⟨r1, rfl, upd_same⟩, fq.mono m1, (ba.sub bf).mono (by decide), bI.mono (by decide), fun r2 hr2 => ?_⟩
  have m2 := Same.new (o := frO ((a - f) / I)) m1 hr2
  refine ⟨_, rfl, t2, _, _, _, rfl, rfl, SqT.of (m2 _ _ ht2), at_1, _, rfl, t, _, _, _, rfl, rfl, SqT.of (m2 _ _ ht), at_0, _, _, rfl, b, f, fq2.mono m2, fp.mono m2, bb.mono (by decide), bf.mono (by decide), fun r3 hr3 => ?_⟩
  have m3 := Same.new (o := frO (b - f)) m2 hr3
  refine ⟨_, rfl, t, _, _, _, rfl, rfl, SqT.of (m3 _ _ ht), at_1, _, _, rfl, b - f, I, ⟨r3, rfl, upd_same⟩, fq.mono m3, (bb.sub bf).mono (by decide), bI.mono (by decide), fun r4 hr4 => ?_⟩
  have m4 := Same.new (o := frO ((b - f) / I)) m3 hr4
  have h2 := Same.new (o := frO ((b - f) / I)) (same_new (o := frO (b - f)) hr3) hr4 r2 _ (upd_same (o := frO ((a - f) / I)))
  refine ⟨_, rfl, r2, _, _, _, rfl, rfl, sq2 h2, at_0, _, rfl, _, rfl, r2, _, _, _, rfl, rfl, sq2 h2, at_1, line2, fun r5 hr5 => ?_⟩
  rw [frO_neg]
  have m5 := Same.new (o := frO (-((a - f) / I))) m4 hr5
  refine ⟨_, rfl, -((a - f) / I), ⟨r5, rfl, upd_same⟩, bq1.neg.mono (by decide), _, rfl, _, rfl, _, rfl, (b - f) / I, FrV.mono ⟨r4, rfl, upd_same⟩ (same_new hr5), bq2.mono (by decide), line2, fun t3 ht3 => ?_⟩
  have e1 : -((-((a - f) / I)).floor) = loK f I a := by
    unfold loK
    have : -((a - f) / I) = (f - a) / I := by grind
    rw [this]
  have := h.at m5 ht3
  rw [← e1] at this
  exact this
def ResT (H : Hp) (t : Addr) : Res → Prop
  | .told l => ∃ p xs, H t = some (.tup [.str "told", .ref p]) ∧ H p = some (.lst xs) ∧ FrX H xs l
  | .endless => H t = some (.tup [.str "Endless", .non])
  | .many => H t = some (.tup [.str "TooMany", .int 400])
def DuePre (R : Rule) (a b : Rat) : Prop := match R with
  | some (f, some I) => NumOk f I a b ∧ Sz 600 f ∧ Sz 600 I
  | _ => True
def spDue : Sp := sp2 fun r e H Q _ => ∃ R a b, RuleV H r R ∧ PairV H e (a, b) ∧ DuePre R a b ∧ Sz 600 a ∧ Sz 600 b ∧ ∀ t H', Same H H' → ResT H' t (dueRes R a b) → Q (.ref t) H'
abbrev N__law_meetings_due : List Str := ["_law_rule_here", "_law_ends", "_law_low", "_law_high", "_law_k"]
theorem sc__law_meetings_due : FnScope N__law_meetings_due ["_law_rule_here", "_law_ends"] (defScope S__law_meetings_due) := ⟨rfl, rfl, rfl, by decide +kernel, rfl, by decide +kernel, by decide +kernel⟩
theorem ok__law_meetings_due (T : Tx K mg) (d__law_plus : Ok P w K mg base 3 "_law_plus" ["_law_left", "_law_right"] (spBinL (fun x y => x + y))) (d__law_times : Ok P w K mg base 3 "_law_times" ["_law_left", "_law_right"] (spBinL (fun x y => x * y))) (d__law_numbers_in : Ok P w K mg base 4 "_law_numbers_in" ["_law_rule_here", "_law_ends"] spNumbers)  : Ok P w K mg base 5 "_law_meetings_due" ["_law_rule_here", "_law_ends"] spDue := by
  obtain ⟨fd, F⟩ := T.f__law_meetings_due
  have sc := sc__law_meetings_due
  refine okFN (F := F) T.g__law_meetings_due F.kp (F.bindsN fun _ _ _ _ _ _ us hl => match us, hl with | [_, _], _ => rfl) sc sp2_len (fun cdv A outer s H vs Q E hr h => ?_)
  obtain ⟨u, v, rfl, h⟩ := h
  refine ⟨_, (pss_cons (ps_if (pt_cmpR op_isN (pv 0) pe_non (nomark _)) (pss_one (ps_ret (pe_tup (pa_cons pe_str (pa_cons (pe_lst pa_nil) pa_nil))))) pss_nil)
      (pss_cons (ps_if (pt_cmpR op_isN (pe_ix ix_tup (pv 0) pe_int (fun _ _ => rfl)) pe_non (nomark _)) (pss_one (ps_ret (pe_tup (pa_cons pe_str (pa_cons pe_non pa_nil))))) pss_nil)
      (pss_cons (ps_asg (pe_f d__law_numbers_in (hr.mono (by decide)) rfl passL (pa_cons (pv 0) (pa_cons (pv 1) pa_nil))) (pg_tup rfl (pgs_cons (pg_name (i := 2) sc.nd rfl (Or.inl rfl)) (pgs_cons (pg_name (i := 3) sc.nd rfl (Or.inl rfl)) pgs_nil))))
      (pss_cons (ps_if (pt_cmpR op_ge (pe_op op_sub (pv 3) (pv 2)) pe_int (nomark _)) (pss_one (ps_ret (pe_tup (pa_cons pe_str (pa_cons pe_int pa_nil))))) pss_nil)
      (pss_one (ps_ret (pe_tup (pa_cons pe_str (pa_cons (pe_lc rfl sc.nd (pi_range2 (by rfl) T.b_range (pa_cons (pv 2) (pa_cons (pe_op op_add (pv 3) pe_int) pa_nil))) (blkOk_by (N := N__law_meetings_due) (sc := defScope S__law_meetings_due) (own := [("_law_k", 4)]) (by decide +kernel)) (fun _ _ _ _ _ => (pg_name (i := 4) sc.nd rfl (Or.inl rfl))) (fun _ _ _ _ _ => pts_nil) (fun _ _ _ _ _ => (pe_f d__law_plus (hr.mono (by decide)) rfl passL (pa_cons (pe_ix (ix_tupK (K := K) rfl) (pv 0) pe_int (fun _ _ => rfl)) (pa_cons (pe_f d__law_times (hr.mono (by decide)) rfl passL (pa_cons (pe_ix (ix_tupK (K := K) rfl) (pv 0) pe_int (fun _ _ => rfl)) (pa_cons (pe_tup (pa_cons (pv 4) (pa_cons pe_int pa_nil))) pa_nil))) pa_nil))))) pa_nil))))))))), ?_⟩
  obtain ⟨R, a, b, hR, he, hpre, ba, bb, h⟩ := h
  rcases R with _ | ⟨f, _ | I⟩
  · have : u = .non := hR
    subst this
    refine ⟨_, rfl, rfl, _, rfl, ifD (fun _ => ?_) (fun n => absurd rfl n)⟩
    refine ⟨by decide, fun p hp => ⟨line2, fun t ht => ?_⟩⟩
    have n := same_new (o := .tup [.str "told", .ref p]) ht
    exact h t _ (Same.trans' (same_new hp) n) ⟨p, [], upd_same, n _ _ upd_same, FrX.nil⟩
  · obtain ⟨t, p, rfl, ht, fp⟩ := hR
    refine ⟨_, rfl, rfl, _, rfl, ifD (fun e => by cases e) (fun _ => ?_)⟩
    refine ⟨_, rfl, t, _, _, _, rfl, rfl, sqT1 ht, at_1, rfl, _, rfl, ifD (fun _ => ?_) (fun n => absurd rfl n)⟩
    exact ⟨line2, fun t ht => h t _ (same_new ht) upd_same⟩
  · obtain ⟨nk, bf, bI⟩ := hpre
    have hR0 := hR
    obtain ⟨t, p, q, rfl, ht, fp, fq⟩ := hR
    have nn : q ≠ .non := by obtain ⟨q, rfl, _⟩ := fq; intro z; cases z
    refine ⟨_, rfl, rfl, _, rfl, ifD (fun e => by cases e) (fun _ => ?_)⟩
    refine ⟨_, rfl, t, _, _, _, rfl, rfl, sqT1 ht, at_1, rfl, _, rfl, ifD (fun e => absurd e nn) (fun _ => ?_)⟩
    have I0 : I ≠ 0 := by have := nk.pI; grind
    refine ⟨_, rfl, _, rfl, _, _, rfl, f, I, a, b, hR0, he, bf, bI, ba, bb, I0, fun pn H1 s1 hpn => ?_⟩
    refine ⟨pn, _, rfl, SqT.of hpn, rfl, _, _, rfl, _, _, rfl, rfl, ?_⟩
    have blo := nk.lo
    have bhi := nk.hi
    have hres : dueRes (some (f, some I)) a b = stepsRes f I a b := rfl
    rw [hres] at h
    unfold stepsRes at h
    generalize loK f I a = lo at *
    generalize hiK f I b = hi at *
    refine ⟨_, rfl, _, rfl, _, _, rfl, rfl, _, _, rfl, rfl, _, rfl, ifD (fun g => ?_) (fun g => ?_)⟩
    · have g : 400 ≤ hi - lo := g
      rw [if_pos (by omega)] at h
      exact ⟨line2, fun t ht => h t _ (Same.new s1 ht) upd_same⟩
    · have g : ¬ 400 ≤ hi - lo := g
      rw [if_neg (by omega)] at h
      refine ⟨_, rfl, _, rfl, _, _, rfl, rfl, lo, hi + 1, rfl, ⟨by omega, by omega, by omega, by omega⟩, fun D hD => ?_⟩
      have ht1 := s1 _ _ ht
      have fp1 := fp.mono s1
      have fq1 := fq.mono s1
      refine lc_mapR (R := fun i y Hx => FrV Hx y (f + ((lo + (i : Int) : Int) : Rat) * I)) (fun i y Ha Hb s z => z.monoL s) hD (line400 (by omega)) (fun i Hx hi' sx k hk => ?_) (fun H3 ys s3 hy hn hr3 => ?_)
      · have bk : (lo + (i : Int)).natAbs < 2 ^ 52 := by omega
        have zk : Sz 52 ((lo + (i : Int) : Int) : Rat) := Sz.int bk (by decide)
        have zm := bI.mul zk
        refine ⟨rfl, _, rfl, t, _, _, _, rfl, rfl, SqT.of (sx _ _ ht1), at_0, _, rfl, t, _, _, _, rfl, rfl, SqT.of (sx _ _ ht1), at_1, _, rfl, line2, fun r1 hr1 => ?_⟩
        have m1 := same_new (o := frO ((lo + (i : Int) : Int) : Rat)) hr1
        refine ⟨_, _, rfl, I, ((lo + (i : Int) : Int) : Rat), (fq1.mono sx).mono m1, ⟨r1, rfl, upd_same⟩, bI.mono (by decide), zk.mono (by decide), fun r2 hr2 => ?_⟩
        have m2 := Same.new (o := frO (I * ((lo + (i : Int) : Int) : Rat))) m1 hr2
        refine ⟨_, _, rfl, f, I * ((lo + (i : Int) : Int) : Rat), (fp1.mono sx).mono m2, ⟨r2, rfl, upd_same⟩, bf.mono (by decide), zm.mono (by decide), fun r3 hr3 => ?_⟩
        refine hk _ _ (Same.new m2 hr3) ⟨r3, rfl, ?_⟩
        rw [upd_same, Rat.mul_comm I]
      · refine ⟨line2, fun t2 ht2 => ?_⟩
        have n := same_new (o := .tup [.str "told", .ref D]) ht2
        refine h t2 _ (Same.trans' s1 (Same.trans' s3 n)) ⟨D, ys, upd_same, n _ _ hy, ?_⟩
        refine FrX.mono ⟨by rw [hn, listK_len], fun i x hi' => ?_⟩ n
        have il := (List.getElem?_eq_some_iff.mp hi').1
        exact ⟨_, listK_get (by omega), hr3 i x hi'⟩
end
end Wk
set_option maxHeartbeats 4000000
namespace Wk
open PySem PySem.Spec PyProof.Rows L2
/-! ### texts by their signs -/
def strL (l : List Nat) : Str := ⟨l.toArray⟩
theorem strL_cps (x : Str) : strL x.cps.toList = x := by cases x; rfl
theorem strL_add (a b : List Nat) : strL a ++ strL b = strL (a ++ b) := by
  show Str.mk _ = Str.mk _
  simp [strL]
theorem strL_len (a : List Nat) : (strL a).length = a.length := by simp [strL, Str.length]
theorem strL_inj {a b : List Nat} (h : strL a = strL b) : a = b := by
  have := congrArg (fun s : Str => s.cps.toList) h
  simpa [strL] using this
theorem join_signs : ∀ cs : List Nat, Txt.join (Str.ofString "") (cs.map fun c => (⟨#[c]⟩ : Str)) = strL cs := by
  intro cs
  unfold Txt.join
  rw [StrLaws.glued_eq_join]
  have e : Str.ofString "" = strL [] := by decide +kernel
  rw [e]
  induction cs with
  | nil => rfl
  | cons c r ih =>
    cases r with
    | nil => rfl
    | cons d r =>
      have : Str.join (strL []) ((c :: d :: r).map fun c => (⟨#[c]⟩ : Str)) = (strL [c] ++ strL []) ++ Str.join (strL []) ((d :: r).map fun c => (⟨#[c]⟩ : Str)) := rfl
      rw [this, ih, strL_add, strL_add]
      simp
theorem cut_to (l : List Nat) (k : Nat) : cutS (strL l) none (some (k : Int)) = strL (l.take (min k l.length)) := by
  unfold cutS
  have e : (strL l).cps.toList = l := by simp [strL]
  rw [e, strL_len, HT.sIx_nat, HT.sIx_none]
  simp [strL]
theorem sgn_all : ∀ c ∈ sgnS.cps.toList, (isL c || isD c) = true := by decide +kernel
theorem sgn_len : sgnS.cps.toList.length = 36 := by decide +kernel
theorem sgn_nd : sgnS.cps.toList.Nodup := by decide +kernel
theorem sgn_head : ∀ i ∈ List.range 26, ∀ c ∈ sgnS.cps.toList[i]?.toList, isL c = true := by decide +kernel
theorem sgn_line : sgnS.length ≤ sizeLine := by
  have : sgnS.length = 36 := by decide +kernel
  rw [this]; decide
/-- the k-th of the names -/
def nmL (head tail : List Nat) (s : Nat) (m : Nat → Nat) (k : Nat) : List Nat := head ++ [sgnS.cps.toList.getD ((s + 5 * k) % 36) 0] ++ tail.take (m k)
theorem nm_inj {head tail : List Nat} {s : Nat} {m : Nat → Nat} {i j : Nat} (hi : i < 36) (hj : j < 36) (h : nmL head tail s m i = nmL head tail s m j) : i = j := by
  unfold nmL at h
  have e : sgnS.cps.toList.getD ((s + 5 * i) % 36) 0 = sgnS.cps.toList.getD ((s + 5 * j) % 36) 0 := by
    have := congrArg (fun l => l[head.length]?) h
    simpa [List.getD_eq_getElem?_getD] using this
  have a1 : (s + 5 * i) % 36 < sgnS.cps.toList.length := by rw [sgn_len]; omega
  have a2 : (s + 5 * j) % 36 < sgnS.cps.toList.length := by rw [sgn_len]; omega
  rw [List.getD_eq_getElem?_getD, List.getD_eq_getElem?_getD, List.getElem?_eq_getElem a1, List.getElem?_eq_getElem a2] at e
  have := (List.getElem_inj (h₀ := a1) (h₁ := a2) sgn_nd).mp e
  omega
theorem nm_ok {c0 : Nat} {cs tail : List Nat} {s : Nat} {m : Nat → Nat} {k : Nat} (h0 : isL c0 = true) (h1 : ∀ c ∈ cs, c ∈ sgnS.cps.toList) (h2 : ∀ c ∈ tail, c ∈ sgnS.cps.toList) (l1 : cs.length ≤ 4) (l2 : tail.length ≤ 6) : nameOk (strL (nmL (c0 :: cs) tail s m k)) = true := by
  have e : (strL (nmL (c0 :: cs) tail s m k)).cps.toList = c0 :: (cs ++ [sgnS.cps.toList.getD ((s + 5 * k) % 36) 0] ++ tail.take (m k)) := by simp [strL, nmL]
  unfold nameOk
  rw [e]
  have a1 : (s + 5 * k) % 36 < sgnS.cps.toList.length := by rw [sgn_len]; omega
  have hs : sgnS.cps.toList.getD ((s + 5 * k) % 36) 0 ∈ sgnS.cps.toList := by
    rw [List.getD_eq_getElem?_getD, List.getElem?_eq_getElem a1]; exact List.getElem_mem a1
  show (decide ((cs ++ [sgnS.cps.toList.getD ((s + 5 * k) % 36) 0] ++ tail.take (m k)).length ≤ 11) && (isL c0 && (c0 :: (cs ++ [sgnS.cps.toList.getD ((s + 5 * k) % 36) 0] ++ tail.take (m k))).all fun c => isL c || isD c)) = true
  have b : (cs ++ [sgnS.cps.toList.getD ((s + 5 * k) % 36) 0] ++ tail.take (m k)).length ≤ 11 := by simp; omega
  rw [decide_eq_true b, h0]
  simp only [Bool.true_and]
  rw [List.all_eq_true]
  intro c hc
  rcases List.mem_cons.mp hc with rfl | hc
  · rw [h0]; rfl
  · apply sgn_all
    rcases List.mem_append.mp hc with hc | hc
    · rcases List.mem_append.mp hc with hc | hc
      · exact h1 c hc
      · rw [List.mem_singleton.mp hc]; exact hs
    · exact h2 c (List.mem_of_mem_take hc)
theorem names_ok {c0 : Nat} {cs tail : List Nat} {s : Nat} {m : Nat → Nat} {n : Nat} (hn : n ≤ 36) (h0 : isL c0 = true) (h1 : ∀ c ∈ cs, c ∈ sgnS.cps.toList) (h2 : ∀ c ∈ tail, c ∈ sgnS.cps.toList) (l1 : cs.length ≤ 4) (l2 : tail.length ≤ 6) :
    NamesOk ((List.range n).map fun k => strL (nmL (c0 :: cs) tail s m k)) := by
  refine ⟨fun x hx => ?_, ?_⟩
  · obtain ⟨k, _, rfl⟩ := List.mem_map.mp hx
    exact nm_ok h0 h1 h2 l1 l2
  · refine List.Pairwise.map _ (fun i j hij h => ?_) (List.Pairwise.and_mem.mp (List.nodup_range (n := n)))
    have a := List.mem_range.mp hij.1
    have b := List.mem_range.mp hij.2.1
    exact hij.2.2 (nm_inj (by omega) (by omega) (strL_inj h))
end Wk
set_option maxHeartbeats 4000000
namespace Wk
open PySem PySem.Spec PyProof.Rows L2
section
variable {P : Program} {w : World} {K : PySem.W.Frag} {mg : Str → Option Value} {base : Heap}
abbrev sgnV (cs : List Nat) : List V := cs.map fun c => V.str ⟨#[c]⟩
theorem sgnV_eq (cs : List Nat) : sgnV cs = (cs.map fun c => (⟨#[c]⟩ : Str)).map V.str := by rw [List.map_map]; rfl
/-- what a row of drawn signs keeps -/
structure DrS (H0 : Hp) (st D : Addr) (c : Nat) (i : Nat) (H : Hp) : Prop where
  sm : SameS st H0 H
  ok : StoreOk H st (c + i)
  nc : NotCl H st D
  ex : ∃ cs : List Nat, H D = some (.lst (sgnV cs)) ∧ cs.length = i ∧ ∀ x ∈ cs, x ∈ sgnS.cps.toList
theorem DrS.next {H0 H H' : Hp} {st D : Addr} {c i x : Nat} (h : DrS H0 st D c i H) (hD : H0 D = none) (nD : D ≠ st) (s : SameS st H H') (ok' : StoreOk H' st (c + i + 1)) (hx : x ∈ sgnS.cps.toList) (hi : i < 100) :
    ∃ acc, H' D = some (.lst acc) ∧ acc.length < sizeLine ∧ DrS H0 st D c (i + 1) (upd H' D (.lst (acc ++ [V.str ⟨#[x]⟩]))) := by
  obtain ⟨sm, ok, nc, cs, hcs, hl, hm⟩ := h
  have hD' := s.keep _ _ nD hcs
  have nc' := nc.s ok s
  refine ⟨_, hD', Nat.lt_of_le_of_lt (show (sgnV cs).length ≤ 100 by simp; omega) (by decide), (sm.trans s).own hD nD, ok'.own nD nc', nc'.upd nD, cs ++ [x], ?_, by simp [hl], fun y hy => ?_⟩
  · rw [upd_same]; simp
  · rcases List.mem_append.mp hy with w | w
    · exact hm y w
    · rw [List.mem_singleton.mp w]; exact hx
theorem join_len (cs : List Nat) (h : cs.length ≤ 100) : ((cs.map fun c => (⟨#[c]⟩ : Str)).map (·.length)).sum + (cs.map fun c => (⟨#[c]⟩ : Str)).length * (Str.ofString "").length ≤ 16777216 := by
  have e : (Str.ofString "").length = 0 := by decide +kernel
  rw [e]
  have : ((cs.map fun c => (⟨#[c]⟩ : Str)).map (·.length)) = cs.map fun _ => 1 := by rw [List.map_map]; rfl
  rw [this]
  have h1 : (cs.map fun _ => 1).sum = cs.length := by
    clear this h e
    induction cs with
    | nil => rfl
    | cons c r ih => simp [ih]; omega
  rw [h1]
  simp
  omega
def spWords : Sp := sp2 fun s m H Q _ => ∃ (st : Addr) (c n : Nat), s = .ref st ∧ m = .int (n : Int) ∧ StoreOk H st c ∧ c ≤ 50000 ∧ n ≤ 36 ∧
  ∀ D ns H', SameS st H H' → StoreOk H' st (c + 20) → OwnL H H' st D → H' D = some (.lst (List.map V.str ns)) → ns.length = n → NamesOk ns → Q (.ref D) H'
theorem at_sgn {i : Int} (h0 : 0 ≤ i) (h1 : i < 36) : atI sgnS.cps.toList i = some (sgnS.cps.toList.getD i.toNat 0) := by
  have l : i.toNat < sgnS.cps.toList.length := by rw [sgn_len]; omega
  have e : ((i.toNat : Nat) : Int) = i := by omega
  have := atI_nat (xs := sgnS.cps.toList) (j := i.toNat) (v := sgnS.cps.toList[i.toNat]'l) (List.getElem?_eq_getElem l)
  rw [e] at this
  rw [this, List.getD_eq_getElem?_getD, List.getElem?_eq_getElem l]; rfl
theorem sgn_mem {i : Int} (h0 : 0 ≤ i) (h1 : i < 36) : sgnS.cps.toList.getD i.toNat 0 ∈ sgnS.cps.toList := by
  have l : i.toNat < sgnS.cps.toList.length := by rw [sgn_len]; omega
  rw [List.getD_eq_getElem?_getD, List.getElem?_eq_getElem l]; exact List.getElem_mem l
theorem sgn_let {i : Int} (h0 : 0 ≤ i) (h1 : i < 26) : isL (sgnS.cps.toList.getD i.toNat 0) = true := by
  have l : i.toNat < sgnS.cps.toList.length := by rw [sgn_len]; omega
  refine sgn_head i.toNat (List.mem_range.mpr (by omega)) _ ?_
  rw [List.getD_eq_getElem?_getD, List.getElem?_eq_getElem l]; simp
abbrev N__law_words : List Str := ["_law_store_here", "_law_many_here", "_law_signs_here", "_law_head", "_law_k", "_law_tail", "_law_start"]
theorem sc__law_words : FnScope N__law_words ["_law_store_here", "_law_many_here"] (defScope S__law_words) := ⟨rfl, rfl, rfl, by decide +kernel, rfl, by decide +kernel, by decide +kernel⟩
theorem ok__law_words (T : Tx K mg) (d__law_take : Ok P w K mg base 2 "_law_take" ["_law_store_here", "_law_many_here"] spTake) (d__law_signs : Ok P w K mg base 1 "_law_signs" [] spSigns)  : Ok P w K mg base 3 "_law_words" ["_law_store_here", "_law_many_here"] spWords := by
  obtain ⟨fd, F⟩ := T.f__law_words
  have sc := sc__law_words
  refine okFN (F := F) T.g__law_words F.kp (F.bindsN fun _ _ _ _ _ _ us hl => match us, hl with | [_, _], _ => rfl) sc sp2_len (fun cdv A outer s H vs Q E hr h => ?_)
  obtain ⟨u, v, rfl, h⟩ := h
  refine ⟨_, (pss_cons (ps_set (i := 2) sc.nd rfl (Or.inr rfl) (pe_f0 d__law_signs (hr.mono (by decide)) rfl passL))
      (pss_cons (ps_set (i := 3) sc.nd rfl (Or.inr rfl) (pe_op op_add_str (pe_ix ix_str (pv 2) (pe_f d__law_take (hr.mono (by decide)) rfl passL (pa_cons (pv 0) (pa_cons pe_int pa_nil))) (fun _ _ => rfl)) (pe_join pe_str (pe_lc rfl sc.nd (pi_range1 (by rfl) T.b_range (pa_cons (pe_f d__law_take (hr.mono (by decide)) rfl passL (pa_cons (pv 0) (pa_cons pe_int pa_nil))) pa_nil)) (blkOk_by (N := N__law_words) (sc := defScope S__law_words) (own := [("_law_k", 4)]) (by decide +kernel)) (fun _ _ _ _ _ => (pg_name (i := 4) sc.nd rfl (Or.inl rfl))) (fun _ _ _ _ _ => pts_nil) (fun _ _ _ _ _ => (pe_ix ix_str (pv 2) (pe_f d__law_take (hr.mono (by decide)) rfl passL (pa_cons (pv 0) (pa_cons pe_int pa_nil))) (fun _ _ => rfl)))))))
      (pss_cons (ps_set (i := 5) sc.nd rfl (Or.inr rfl) (pe_join pe_str (pe_lc rfl sc.nd (pi_range1 (by rfl) T.b_range (pa_cons (pe_f d__law_take (hr.mono (by decide)) rfl passL (pa_cons (pv 0) (pa_cons pe_int pa_nil))) pa_nil)) (blkOk_by (N := N__law_words) (sc := defScope S__law_words) (own := [("_law_k", 4)]) (by decide +kernel)) (fun _ _ _ _ _ => (pg_name (i := 4) sc.nd rfl (Or.inl rfl))) (fun _ _ _ _ _ => pts_nil) (fun _ _ _ _ _ => (pe_ix ix_str (pv 2) (pe_f d__law_take (hr.mono (by decide)) rfl passL (pa_cons (pv 0) (pa_cons pe_int pa_nil))) (fun _ _ => rfl))))))
      (pss_cons (ps_set (i := 6) sc.nd rfl (Or.inr rfl) (pe_f d__law_take (hr.mono (by decide)) rfl passL (pa_cons (pv 0) (pa_cons pe_int pa_nil))))
      (pss_one (ps_ret (pe_lc rfl sc.nd (pi_range1 (by rfl) T.b_range (pa_cons (pv 1) pa_nil)) (blkOk_by (N := N__law_words) (sc := defScope S__law_words) (own := [("_law_k", 4)]) (by decide +kernel)) (fun _ _ _ _ _ => (pg_name (i := 4) sc.nd rfl (Or.inl rfl))) (fun _ _ _ _ _ => pts_nil) (fun _ _ _ _ _ => (pe_op op_add_str (pe_op op_add_str (pv 3) (pe_ix ix_str (pv 2) (pe_op op_mod (pe_op op_add (pv 6) (pe_op op_mulW pe_int (pv 4))) pe_int) (fun _ _ => rfl))) (pe_slice sl_str (pv 5) po_none (po_some (pe_op op_mod (pe_op op_mulW (pv 4) (pv 6)) (pe_op op_add (pe_callB (call_lenC (K := K) rfl) (by rfl) T.b_len PySem.boot_len (pa_cons (pv 5) pa_nil)) pe_int))))))))))))), ?_⟩
  obtain ⟨st, c, n, rfl, rfl, hs, hc, hn, h⟩ := h
  -- head
  try dsimp only
  refine seq_intro (fun σ' H' => σ' = [some (.ref st), some (.int (n : Int)), some (.str sgnS), none, none, none, none] ∧ H' = H) (fun R hR => ?_) ?_
  · exact ⟨rfl, hR _ _ ⟨rfl, rfl⟩⟩
  rintro σ' H' ⟨rfl, rfl⟩
  refine seq_intro (fun σ' H2 => ∃ (c0 : Nat) (cs : List Nat), σ' = [some (.ref st), some (.int (n : Int)), some (.str sgnS), some (.str (strL (c0 :: cs))), none, none, none] ∧ SameS st H' H2 ∧ StoreOk H2 st (c + 6) ∧ isL c0 = true ∧ cs.length ≤ 4 ∧ ∀ x ∈ cs, x ∈ sgnS.cps.toList) (fun R hR => ?_) ?_
  · refine ⟨_, rfl, _, rfl, _, _, rfl, st, c, 26, rfl, rfl, hs, by omega, by decide, fun z H1 s1 hs1 z0 z1 => ?_⟩
    have z26 : z < 26 := by omega
    refine ⟨sgnS, z, _, rfl, rfl, sgn_line, at_sgn z0 (by omega), ?_⟩
    refine ⟨⟨_, rfl⟩, _, rfl, _, _, rfl, st, c + 1, 5, rfl, rfl, hs1, by omega, by decide, fun m H2 s2 hs2 m0 m1 => ?_⟩
    have m5 : m < 5 := by omega
    refine ⟨m, rfl, by omega, by omega, fun D hD => ?_⟩
    have nD := hs2.ne hD
    have t0 := same_new (o := .lst []) hD
    refine lc_rangeY (DrS H2 st D (c + 2)) ⟨SameS.of t0, hs2.same t0, (NotCl.of hs2 hD).s hs2 (SameS.of t0), [], upd_same, rfl, by simp⟩ (fun i Hx hi dr => ?_) (fun H3 dr => ?_)
    · refine ⟨rfl, _, rfl, _, rfl, _, _, rfl, st, _, 36, rfl, rfl, dr.ok, by omega, by decide, fun y H3 s3 hs3 y0 y1 => ?_⟩
      have y36 : y < 36 := by omega
      exact ⟨sgnS, y, _, rfl, rfl, sgn_line, at_sgn y0 y36, dr.next hD nD s3 hs3 (sgn_mem y0 y36) (by omega)⟩
    · obtain ⟨sm, ok, nc, cs, hcs, hl, hm⟩ := dr
      have h5 : cs.length ≤ 4 := by omega
      rw [sgnV_eq] at hcs
      refine ⟨_, D, _, rfl, rfl, .inl (SqL.of hcs), join_len cs (by omega), ?_⟩
      rw [join_signs]
      refine ⟨_, _, rfl, rfl, Nat.le_trans (show _ ≤ 10 by rw [strL_len]; show 1 + _ ≤ 10; omega) (by decide), ?_⟩
      refine hR _ _ ⟨sgnS.cps.toList.getD z.toNat 0, cs, ?_, (s1.trans s2).trans sm, ok.le (by omega), sgn_let z0 z26, h5, hm⟩
      have : (⟨#[sgnS.cps.toList.getD z.toNat 0]⟩ : Str) ++ strL cs = strL (sgnS.cps.toList.getD z.toNat 0 :: cs) := strL_add [sgnS.cps.toList.getD z.toNat 0] cs
      rw [← this]; rfl
  rintro σ' H2 ⟨c0, cs, rfl, s02, hs2, hc0, lcs, hcs⟩
  refine seq_intro (fun σ' H3 => ∃ (ts : List Nat), σ' = [some (.ref st), some (.int (n : Int)), some (.str sgnS), some (.str (strL (c0 :: cs))), none, some (.str (strL ts)), none] ∧ SameS st H2 H3 ∧ StoreOk H3 st (c + 13) ∧ ts.length ≤ 6 ∧ ∀ x ∈ ts, x ∈ sgnS.cps.toList) (fun R hR => ?_) ?_
  · refine ⟨⟨_, rfl⟩, _, rfl, _, _, rfl, st, _, 7, rfl, rfl, hs2, by omega, by decide, fun m H3 s3 hs3 m0 m1 => ?_⟩
    have m7 : m < 7 := by omega
    refine ⟨m, rfl, by omega, by omega, fun D hD => ?_⟩
    have nD := hs3.ne hD
    have t0 := same_new (o := .lst []) hD
    refine lc_rangeY (DrS H3 st D (c + 7)) ⟨SameS.of t0, hs3.same t0, (NotCl.of hs3 hD).s hs3 (SameS.of t0), [], upd_same, rfl, by simp⟩ (fun i Hx hi dr => ?_) (fun H4 dr => ?_)
    · refine ⟨rfl, _, rfl, _, rfl, _, _, rfl, st, _, 36, rfl, rfl, dr.ok, by omega, by decide, fun y H3 s3 hs3 y0 y1 => ?_⟩
      have y36 : y < 36 := by omega
      exact ⟨sgnS, y, _, rfl, rfl, sgn_line, at_sgn y0 y36, dr.next hD nD s3 hs3 (sgn_mem y0 y36) (by omega)⟩
    · obtain ⟨sm, ok, nc, ts, hts, hl, hm⟩ := dr
      rw [sgnV_eq] at hts
      refine ⟨_, D, _, rfl, rfl, .inl (SqL.of hts), join_len ts (by omega), ?_⟩
      rw [join_signs]
      exact hR _ _ ⟨ts, rfl, s3.trans sm, ok.le (by omega), by omega, hm⟩
  rintro σ' H3 ⟨ts, rfl, s23, hs3, lts, hts⟩
  refine ⟨_, rfl, _, _, rfl, st, _, 36, rfl, rfl, hs3, by omega, by decide, fun z H4 s4 hs4 z0 z1 => ?_⟩
  have z36 : z < 36 := by omega
  have s04 := (s02.trans s23).trans s4
  refine ⟨_, rfl, (n : Int), rfl, by omega, by omega, fun D hD => ?_⟩
  have nD := hs4.ne hD
  let mm : Nat → Nat := fun k => min ((((k : Int) * z) % ((ts.length : Int) + 1)).toNat) ts.length
  refine lc_mapR (R := fun i y _ => y = .str (strL (nmL (c0 :: cs) ts z.toNat mm i))) (fun _ _ _ _ _ q => q) hD (line400 (by simp; omega)) (fun i Hx hi sx k hk => ?_) (fun H5 ys s5 hy hn5 hr5 => ?_)
  · have hi : i < 36 := by omega
    have e5 : (z + 5 * (0 + (i : Int))) % 36 = (((z.toNat + 5 * i) % 36 : Nat) : Int) := by omega
    have c5 : 0 ≤ (z + 5 * (0 + (i : Int))) % 36 ∧ (z + 5 * (0 + (i : Int))) % 36 < 36 := by omega
    have em : ((0 + (i : Int)) * z) % ((ts.length : Int) + 1) = ((((i : Int) * z) % ((ts.length : Int) + 1)).toNat : Int) := by
      have := Int.emod_nonneg ((i : Int) * z) (show (ts.length : Int) + 1 ≠ 0 by omega)
      rw [Int.zero_add]
      omega
    have tl : (strL ts).length ≤ sizeLine := by rw [strL_len]; exact Nat.le_trans (show ts.length ≤ 6 by omega) (by decide)
    refine ⟨rfl, _, rfl, _, rfl, _, rfl, _, rfl, _, _, rfl, rfl, cmul (a := 3) (b := 10) (by decide) (by omega), _, _, rfl, rfl, _, _, rfl, rfl, by show (0 : Int) < 36; decide, sgnS, _, _, rfl, rfl, sgn_line, at_sgn c5.1 c5.2, _, _, rfl, rfl, Nat.le_trans (show _ ≤ 10 by rw [strL_len]; show _ + 1 ≤ 10; simp; omega) (by decide), ?_⟩
    refine ⟨_, rfl, _, rfl, _, rfl, _, _, rfl, rfl, cmul (a := 10) (b := 10) (by omega) (by omega), _, rfl, .str (strL ts), _, rfl, ⟨tl, rfl⟩, _, _, rfl, rfl, _, _, rfl, rfl, by rw [strL_len]; omega, _, rfl, _, rfl, tl, _, _, rfl, rfl, ?_, ?_⟩
    · refine Nat.le_trans (Nat.add_le_add_left (cutS_length _ _ _) _) ?_
      show (strL (c0 :: cs) ++ strL [_]).length + (strL ts).length ≤ sizeLine
      rw [strL_add, strL_len, strL_len]
      exact Nat.le_trans (show _ ≤ 12 by simp; omega) (by decide)
    · refine hk _ _ Same.rfl' ?_
      show V.str ((strL (c0 :: cs) ++ strL [_]) ++ cutS (strL ts) none (some _)) = _
      rw [strL_len, em, cut_to, strL_add, strL_add, e5, Int.toNat_natCast]
      rfl
  · have hn6 : ys.length = n := by rw [hn5]; simp
    have ey : ys = ((List.range n).map fun k => strL (nmL (c0 :: cs) ts z.toNat mm k)).map V.str := by
      apply List.ext_getElem?
      intro i
      rw [List.getElem?_map, List.getElem?_map]
      cases q : ys[i]? with
      | none =>
        have := List.getElem?_eq_none_iff.mp q
        rw [List.getElem?_eq_none (by simp; omega)]; rfl
      | some y =>
        have := (List.getElem?_eq_some_iff.mp q).1
        rw [List.getElem?_range (by omega), hr5 i y q]; rfl
    rw [ey] at hy
    exact h D _ H5 (s04.trans (SameS.of s5)) ((hs4.same s5).le (by omega)) ⟨s04.at_none nD hD, nD, (NotCl.of hs4 hD).s hs4 (SameS.of s5)⟩ hy (by simp) (names_ok (by omega) hc0 hcs hts lcs lts)
end
end Wk
set_option maxHeartbeats 4000000
namespace Wk
open PySem PySem.Spec PyProof.Rows L2
/-! ### equal data -/
/-- the same data, of nesting below n -/
def Al (K : PySem.W.Frag) (H : Hp) : Nat → V → V → Prop
  | 0, _, _ => False
  | n + 1, a, b => (a = .non ∧ b = .non) ∨ (∃ i : Int, a = .int i ∧ b = .int i) ∨ (∃ x : Str, a = .str x ∧ b = .str x) ∨
      (∃ p q xs ys, a = .ref p ∧ b = .ref q ∧ H p = some (.lst xs) ∧ H q = some (.lst ys) ∧ xs.length = ys.length ∧ ys.length ≤ 1000 ∧ ∀ (i : Nat) x y, xs[i]? = some x → ys[i]? = some y → Al K H n x y) ∨
      (∃ p q xs ys, a = .ref p ∧ b = .ref q ∧ H p = some (.tup xs) ∧ H q = some (.tup ys) ∧ xs.length = ys.length ∧ ys.length ≤ 1000 ∧ ∀ (i : Nat) x y, xs[i]? = some x → ys[i]? = some y → Al K H n x y)
theorem Al.mono {K : PySem.W.Frag} {H H' : Hp} (s : Same H H') : ∀ {n : Nat} {a b : V}, Al K H n a b → Al K H' n a b
  | 0, _, _, h => h
  | n + 1, a, b, h => by
    rcases h with h | h | h | ⟨p, q, xs, ys, h1, h2, h3, h4, h5, h6, h7⟩ | ⟨p, q, xs, ys, h1, h2, h3, h4, h5, h6, h7⟩
    · exact .inl h
    · exact .inr (.inl h)
    · exact .inr (.inr (.inl h))
    · exact .inr (.inr (.inr (.inl ⟨p, q, xs, ys, h1, h2, s _ _ h3, s _ _ h4, h5, h6, fun i x y hx hy => (h7 i x y hx hy).mono s⟩)))
    · exact .inr (.inr (.inr (.inr ⟨p, q, xs, ys, h1, h2, s _ _ h3, s _ _ h4, h5, h6, fun i x y hx hy => (h7 i x y hx hy).mono s⟩)))
def spAlike (K : PySem.W.Frag) (n : Nat) : Sp := sp2 fun a b H Q _ => Al K H n a b ∧ ∀ H', Same H H' → Q (.bl true) H'
section
variable {P : Program} {w : World} {K : PySem.W.Frag} {mg : Str → Option Value} {base : Heap}
theorem kLT_f {T : String} (h1 : kitB T "list" = some false) (h2 : kitB T "tuple" = some false) : PySem.W.kitAny K (.type T) [.type "list", .type "tuple"] = some false :=
  kitAny_cons (b := false) (kit_ty h1) (fun _ => kitAny_cons (b := false) (kit_ty h2) (fun _ => kitAny_nil) (by simp)) (by simp)
theorem kLT_l : PySem.W.kitAny K (.type "list") [.type "list", .type "tuple"] = some true :=
  kitAny_cons (b := true) (kit_ty (by decide +kernel)) (by simp) (fun _ => rfl)
theorem kLT_t : PySem.W.kitAny K (.type "tuple") [.type "list", .type "tuple"] = some true :=
  kitAny_cons (b := false) (kit_ty (by decide +kernel)) (fun _ => kitAny_cons (b := true) (kit_ty (by decide +kernel)) (by simp) (fun _ => rfl)) (by simp)
theorem kIS_i : PySem.W.kitAny K (.type "int") [.type "int", .type "str"] = some true :=
  kitAny_cons (b := true) (kit_ty (by decide +kernel)) (by simp) (fun _ => rfl)
theorem kIS_s : PySem.W.kitAny K (.type "str") [.type "int", .type "str"] = some true :=
  kitAny_cons (b := false) (kit_ty (by decide +kernel)) (fun _ => kitAny_cons (b := true) (kit_ty (by decide +kernel)) (by simp) (fun _ => rfl)) (by simp)
theorem k_tup_lst {K : PySem.W.Frag} : PySem.W.kitOne K (.type "tuple") (.type "list") = some false := kit_ty (by decide +kernel)
theorem k_str_bool {K : PySem.W.Frag} : PySem.W.kitOne K (.type "str") (.type "bool") = some false := kit_ty (by decide +kernel)
theorem k_str_int {K : PySem.W.Frag} : PySem.W.kitOne K (.type "str") (.type "int") = some false := kit_ty (by decide +kernel)
theorem k_non_bool {K : PySem.W.Frag} : PySem.W.kitOne K (.type "NoneType") (.type "bool") = some false := kit_ty (by decide +kernel)
theorem cls2 {a b : String} : Paired ClsV [.ty a, .ty b] [.type a, .type b] := .cons (.ty _) (.cons (.ty _) .nil)
theorem neF {A B : Prop} {b : Bool} (h : B) : if (!decide (V.bl b = V.bl b)) = true then A else B := by simpa using h
abbrev N__law_alike : List Str := ["_law_told", "_law_due", "_law_k"]
theorem sc__law_alike : FnScope N__law_alike ["_law_told", "_law_due"] (defScope S__law_alike) := ⟨rfl, rfl, rfl, by decide +kernel, rfl, by decide +kernel, by decide +kernel⟩
theorem ok__law_alike (T : Tx K mg) {n k : Nat} (d__law_alike : Ok P w K mg base k "_law_alike" ["_law_told", "_law_due"] (spAlike K (n)))  : Ok P w K mg base (k + 1) "_law_alike" ["_law_told", "_law_due"] (spAlike K (n + 1)) := by
  obtain ⟨fd, F⟩ := T.f__law_alike
  have sc := sc__law_alike
  refine okFN (F := F) T.g__law_alike F.kp (F.bindsN fun _ _ _ _ _ _ us hl => match us, hl with | [_, _], _ => rfl) sc sp2_len (fun cdv A outer s H vs Q E hr h => ?_)
  obtain ⟨u, v, rfl, h⟩ := h
  refine ⟨_, (pss_cons (ps_if (pt_val (pe_callB call_isiT (by rfl) T.b_isinstance (by decide +kernel) (pa_cons (pv 1) (pa_cons (pe_tup (pa_cons (pe_bltn (v := .ty "list") rfl T.b_list (by decide +kernel) rfl) (pa_cons (pe_bltn (v := .ty "tuple") rfl T.b_tuple (by decide +kernel) rfl) pa_nil))) pa_nil)))) (pss_cons (ps_if (PW.pt (pw_or (pt_not (pt_val (pe_callB call_isiT (by rfl) T.b_isinstance (by decide +kernel) (pa_cons (pv 0) (pa_cons (pe_tup (pa_cons (pe_bltn (v := .ty "list") rfl T.b_list (by decide +kernel) rfl) (pa_cons (pe_bltn (v := .ty "tuple") rfl T.b_tuple (by decide +kernel) rfl) pa_nil))) pa_nil))))) (pw_or1 (pt_cmpR op_ne (pe_callB call_isi (by rfl) T.b_isinstance (by decide +kernel) (pa_cons (pv 0) (pa_cons (pe_bltn (v := .ty "list") rfl T.b_list (by decide +kernel) rfl) pa_nil))) (pe_callB call_isi (by rfl) T.b_isinstance (by decide +kernel) (pa_cons (pv 1) (pa_cons (pe_bltn (v := .ty "list") rfl T.b_list (by decide +kernel) rfl) pa_nil))) (nomark _))))) (pss_one (ps_ret pe_bl)) pss_nil)
      (pss_cons (ps_if (pt_cmpR op_ne (pe_callB call_len (by rfl) T.b_len PySem.boot_len (pa_cons (pv 0) pa_nil)) (pe_callB call_len (by rfl) T.b_len PySem.boot_len (pa_cons (pv 1) pa_nil)) (nomark _)) (pss_one (ps_ret pe_bl)) pss_nil)
      (pss_cons (ps_for PassesOwn.never rfl (pi_range1 (by rfl) T.b_range (pa_cons (pe_callB call_len (by rfl) T.b_len PySem.boot_len (pa_cons (pv 1) pa_nil)) pa_nil)) (pg_name (i := 2) sc.nd rfl (Or.inl rfl)) (pss_one (ps_if (pt_not (pt_val (pe_f d__law_alike (hr.mono (Nat.le_refl _)) rfl passL (pa_cons (pe_ix ix_seq (pv 0) (pv 2) (fun _ _ => rfl)) (pa_cons (pe_ix ix_seq (pv 1) (pv 2) (fun _ _ => rfl)) pa_nil))))) (pss_one (ps_ret pe_bl)) pss_nil)))
      (pss_one (ps_ret pe_bl))))) pss_nil)
      (pss_cons (ps_if (PW.pt (pw_or (pt_cmpR op_isN (pv 1) pe_non (nomark _)) (pw_or1 (pt_cmpR op_ne (pe_callB call_isi (by rfl) T.b_isinstance (by decide +kernel) (pa_cons (pv 0) (pa_cons (pe_bltn (v := .ty "bool") rfl T.b_bool (by decide +kernel) rfl) pa_nil))) (pe_callB call_isi (by rfl) T.b_isinstance (by decide +kernel) (pa_cons (pv 1) (pa_cons (pe_bltn (v := .ty "bool") rfl T.b_bool (by decide +kernel) rfl) pa_nil))) (nomark _))))) (pss_one (ps_ret (pe_and (pe_cmpR op_isN (pv 1) pe_non (nomark _)) (pe_one (pe_cmpR op_isN (pv 0) pe_non (nomark _)))))) pss_nil)
      (pss_one (ps_ret (pe_and (pe_cmpR op_eq (pe_callB call_isi (by rfl) T.b_isinstance (by decide +kernel) (pa_cons (pv 0) (pa_cons (pe_bltn (v := .ty "int") rfl T.b_int (by decide +kernel) rfl) pa_nil))) (pe_callB call_isi (by rfl) T.b_isinstance (by decide +kernel) (pa_cons (pv 1) (pa_cons (pe_bltn (v := .ty "int") rfl T.b_int (by decide +kernel) rfl) pa_nil))) (nomark _)) (pe_and (pe_callB call_isiT (by rfl) T.b_isinstance (by decide +kernel) (pa_cons (pv 0) (pa_cons (pe_tup (pa_cons (pe_bltn (v := .ty "int") rfl T.b_int (by decide +kernel) rfl) (pa_cons (pe_bltn (v := .ty "str") rfl T.b_str (by decide +kernel) rfl) pa_nil))) pa_nil))) (pe_one (pe_cmpR op_eq (pv 0) (pv 1) (nomark _))))))))), ?_⟩
  obtain ⟨hA, h⟩ := h
  rcases hA with ⟨rfl, rfl⟩ | ⟨i, rfl, rfl⟩ | ⟨x, rfl, rfl⟩ | ⟨p, q, xs, ys, rfl, rfl, h3, h4, h5, h6, h7⟩ | ⟨p, q, xs, ys, rfl, rfl, h3, h4, h5, h6, h7⟩
  · refine ⟨_, rfl, line2, fun tp htp => ⟨_, tp, _, _, _, false, rfl, upd_same, cls2, .base .non, kLT_f (by decide +kernel) (by decide +kernel), false, rfl, iteF ?_⟩⟩
    refine ⟨_, rfl, rfl, _, rfl, ifD (fun _ => ?_) (fun n => absurd rfl n)⟩
    exact ⟨_, rfl, rfl, _, rfl, iteT ⟨_, rfl, rfl, h _ (same_new htp)⟩⟩
  · refine ⟨_, rfl, line2, fun tp htp => ⟨_, tp, _, _, _, false, rfl, upd_same, cls2, .base (.int _), kLT_f (by decide +kernel) (by decide +kernel), false, rfl, iteF ?_⟩⟩
    refine ⟨_, rfl, rfl, _, rfl, ifD (fun z => by cases z) (fun _ => ?_)⟩
    refine ⟨_, rfl, _, _, _, _, false, rfl, .ty _, .base (.int _), k_int_bool, _, rfl, _, _, _, _, false, rfl, .ty _, .base (.int _), k_int_bool, rfl, _, rfl, neF ?_⟩
    refine ⟨_, rfl, _, _, _, _, true, rfl, .ty _, .base (.int _), k_int_int, _, rfl, _, _, _, _, true, rfl, .ty _, .base (.int _), k_int_int, rfl, _, rfl, ?_⟩
    rw [decide_eq_true rfl]
    refine iteT ?_
    refine ⟨_, rfl, line2, fun tq htq => ⟨_, tq, _, _, _, true, rfl, upd_same, cls2, .base (.int _), kIS_i, true, rfl, iteT ?_⟩⟩
    refine ⟨_, rfl, _, rfl, rfl, ?_⟩
    rw [decide_eq_true rfl]
    exact h _ (Same.new (same_new htp) htq)
  · refine ⟨_, rfl, line2, fun tp htp => ⟨_, tp, _, _, _, false, rfl, upd_same, cls2, .base (.str _), kLT_f (by decide +kernel) (by decide +kernel), false, rfl, iteF ?_⟩⟩
    refine ⟨_, rfl, rfl, _, rfl, ifD (fun z => by cases z) (fun _ => ?_)⟩
    refine ⟨_, rfl, _, _, _, _, false, rfl, .ty _, .base (.str _), k_str_bool, _, rfl, _, _, _, _, false, rfl, .ty _, .base (.str _), k_str_bool, rfl, _, rfl, neF ?_⟩
    refine ⟨_, rfl, _, _, _, _, false, rfl, .ty _, .base (.str _), k_str_int, _, rfl, _, _, _, _, false, rfl, .ty _, .base (.str _), k_str_int, rfl, _, rfl, ?_⟩
    rw [decide_eq_true rfl]
    refine iteT ?_
    refine ⟨_, rfl, line2, fun tq htq => ⟨_, tq, _, _, _, true, rfl, upd_same, cls2, .base (.str _), kIS_s, true, rfl, iteT ?_⟩⟩
    refine ⟨_, rfl, _, rfl, rfl, ?_⟩
    rw [decide_eq_true rfl]
    exact h _ (Same.new (same_new htp) htq)
  · refine ⟨_, rfl, line2, fun tp htp => ⟨_, tp, _, _, _, true, rfl, upd_same, cls2, .base (.lst (same_new htp _ _ h4)), kLT_l, true, rfl, iteT ?_⟩⟩
    have n1 := same_new (o := .tup [.ty "list", .ty "tuple"]) htp
    refine ⟨_, rfl, line2, fun tq htq => ⟨_, tq, _, _, _, true, rfl, upd_same, cls2, .base (.lst (same_new htq _ _ (n1 _ _ h3))), kLT_l, true, rfl, iteF ?_⟩⟩
    have n2 := Same.new (o := .tup [.ty "list", .ty "tuple"]) n1 htq
    refine ⟨_, rfl, _, _, _, _, true, rfl, .ty _, .base (.lst (n2 _ _ h3)), k_lst_lst, _, rfl, _, _, _, _, true, rfl, .ty _, .base (.lst (n2 _ _ h4)), k_lst_lst, rfl, _, rfl, neF ?_⟩
    refine ⟨_, rfl, .ref p, xs.length, rfl, .inl ⟨xs, SqL.of (n2 _ _ h3), rfl⟩, _, rfl, .ref q, ys.length, rfl, .inl ⟨ys, SqL.of (n2 _ _ h4), rfl⟩, rfl, _, rfl, ifNe (fun ne => absurd (by omega) ne) (fun _ => ?_)⟩
    refine ⟨_, rfl, .ref q, ys.length, rfl, .inl ⟨ys, SqL.of (n2 _ _ h4), rfl⟩, _, rfl, by omega, by omega, ?_⟩
    refine for_range (fun i σ H' => ∃ o2, σ = [some (.ref p), some (.ref q), o2] ∧ Same H H') ?_ ?_ ?_
    · exact ⟨_, rfl, n2⟩
    · rintro i σ H' hi ⟨o2, rfl, sm⟩
      have hi : i < ys.length := by omega
      have ex : xs[i]? = some (xs[i]'(by omega)) := List.getElem?_eq_getElem _
      have ey : ys[i]? = some (ys[i]'hi) := List.getElem?_eq_getElem _
      have e0 : (0 : Int) + (i : Int) = (i : Int) := Int.zero_add _
      refine ⟨_, rfl, _, rfl, .inl ⟨p, xs, _, _, rfl, rfl, SqL.of (sm _ _ h3), by rw [e0]; exact atI_nat ex, ?_⟩⟩
      refine ⟨_, rfl, _, rfl, .inl ⟨q, ys, _, _, rfl, rfl, SqL.of (sm _ _ h4), by rw [e0]; exact atI_nat ey, ?_⟩⟩
      exact ⟨_, _, rfl, (h7 i _ _ ex ey).mono sm, fun H2 s2 => ⟨true, rfl, iteF ⟨_, rfl, Same.trans' sm s2⟩⟩⟩
    · rintro σ H' ⟨o2, rfl, sm⟩
      exact h H' sm
  · refine ⟨_, rfl, line2, fun tp htp => ⟨_, tp, _, _, _, true, rfl, upd_same, cls2, .base (.tup (same_new htp _ _ h4)), kLT_t, true, rfl, iteT ?_⟩⟩
    have n1 := same_new (o := .tup [.ty "list", .ty "tuple"]) htp
    refine ⟨_, rfl, line2, fun tq htq => ⟨_, tq, _, _, _, true, rfl, upd_same, cls2, .base (.tup (same_new htq _ _ (n1 _ _ h3))), kLT_t, true, rfl, iteF ?_⟩⟩
    have n2 := Same.new (o := .tup [.ty "list", .ty "tuple"]) n1 htq
    refine ⟨_, rfl, _, _, _, _, false, rfl, .ty _, .base (.tup (n2 _ _ h3)), k_tup_lst, _, rfl, _, _, _, _, false, rfl, .ty _, .base (.tup (n2 _ _ h4)), k_tup_lst, rfl, _, rfl, neF ?_⟩
    refine ⟨_, rfl, .ref p, xs.length, rfl, .inr ⟨xs, SqT.of (n2 _ _ h3), rfl⟩, _, rfl, .ref q, ys.length, rfl, .inr ⟨ys, SqT.of (n2 _ _ h4), rfl⟩, rfl, _, rfl, ifNe (fun ne => absurd (by omega) ne) (fun _ => ?_)⟩
    refine ⟨_, rfl, .ref q, ys.length, rfl, .inr ⟨ys, SqT.of (n2 _ _ h4), rfl⟩, _, rfl, by omega, by omega, ?_⟩
    refine for_range (fun i σ H' => ∃ o2, σ = [some (.ref p), some (.ref q), o2] ∧ Same H H') ?_ ?_ ?_
    · exact ⟨_, rfl, n2⟩
    · rintro i σ H' hi ⟨o2, rfl, sm⟩
      have hi : i < ys.length := by omega
      have ex : xs[i]? = some (xs[i]'(by omega)) := List.getElem?_eq_getElem _
      have ey : ys[i]? = some (ys[i]'hi) := List.getElem?_eq_getElem _
      have e0 : (0 : Int) + (i : Int) = (i : Int) := Int.zero_add _
      refine ⟨_, rfl, _, rfl, (.inr (.inl ⟨p, xs, _, _, rfl, rfl, SqT.of (sm _ _ h3), by rw [e0]; exact atI_nat ex, ?_⟩))⟩
      refine ⟨_, rfl, _, rfl, (.inr (.inl ⟨q, ys, _, _, rfl, rfl, SqT.of (sm _ _ h4), by rw [e0]; exact atI_nat ey, ?_⟩))⟩
      exact ⟨_, _, rfl, (h7 i _ _ ex ey).mono sm, fun H2 s2 => ⟨true, rfl, iteF ⟨_, rfl, Same.trans' sm s2⟩⟩⟩
    · rintro σ H' ⟨o2, rfl, sm⟩
      exact h H' sm
end
end Wk
set_option maxHeartbeats 4000000
namespace Wk
open PySem PySem.Spec PyProof.Rows L2
/-! ### alike, from nothing -/
section
variable {P : Program} {w : World} {K : PySem.W.Frag} {mg : Str → Option Value} {base : Heap}
theorem ok_alike0 (T : Tx K mg) : Ok P w K mg base 0 "_law_alike" ["_law_told", "_law_due"] (spAlike K 0) := by
  obtain ⟨fd, F⟩ := T.f__law_alike
  refine ⟨⟨fd, (F.bindsN fun _ _ _ _ _ _ us hl => match us, hl with | [_, _], _ => rfl), ⟨sp2_len, fun A outer s H args us vs Q E hr he hb hv h => ?_⟩⟩, T.g__law_alike, F.kp⟩
  obtain ⟨_, _, _, h, _⟩ := h
  exact h.elim
theorem ok_alike4 (T : Tx K mg) : Ok P w K mg base 4 "_law_alike" ["_law_told", "_law_due"] (spAlike K 4) := ok__law_alike T (ok__law_alike T (ok__law_alike T (ok__law_alike T (ok_alike0 T))))
end
/-! ### _law_answer -/
/-- isinstance(e, c) of a caught exception, its dict (if there is one) among what is tracked -/
def rIsY (K : PySem.W.Frag) (x : Str) (a : Addr) (d : Option Addr) : List V → Hp → VK → Prop := fun xs H Q => (∀ dd, d = some dd → ∃ fs, H dd = some (.xd fs)) ∧ rIsE K (ga K x) a xs H Q
theorem call_isY {X : Cx} {a : Addr} {x : Str} {d : Option Addr} {oe : Obj} {pn : List (Addr × Obj)} (C : ErrC X.K x) (hn : PySem.W.specialIn X.K (.builtin "object.__class__") "__get__" = some (some (.builtin "getset_descriptor.__get__")))
    (ht : PySem.W.takesIn X.K (.builtin "object.__class__") = some true) (hz : Zc (.ref (ga X.K x)) d oe) (hf : ∃ vs, oe.data = .fields vs) : CallR (X.suite a ((a, oe) :: pn)) (.builtin "isinstance") (rIsY X.K x a d) := by
  intro pins s σ H xs us Q I r h
  obtain ⟨hd, c, cv, b, rfl, hcv, e, q⟩ := h
  cases r with
  | cons rx rr =>
    cases rr with
    | cons rt rr =>
      cases rr
      cases rx
      have ec := hcv _ rt
      subst ec
      obtain ⟨hget, _⟩ := I.pin (a, oe) (List.mem_append.mpr (.inl List.mem_cons_self))
      obtain ⟨vs, hv⟩ := hf
      have J : ∃ od, PySem.W.InstAt s.heap a oe (ga X.K x) od := by
        obtain ⟨oc, odd, oda, osl⟩ := oe
        obtain ⟨h1, h2⟩ := hz
        dsimp only at h1 h2 hv
        subst h1 h2 hv
        cases odd with
        | none => exact ⟨none, hget, rfl, rfl, trivial⟩
        | some dd =>
          obtain ⟨fs, hfs⟩ := hd dd rfl
          obtain ⟨od, ho⟩ := objOk_get (I.hok dd _ hfs)
          exact ⟨some od, hget, rfl, rfl, ho⟩
      obtain ⟨od, J⟩ := J
      have hcl : (PySem.W.clsIn X.K (ga X.K x)).isSome = true := by
        have z := C.hd
        unfold PySem.W.hasDictIn at z
        cases q : PySem.W.clsIn X.K (ga X.K x) with
        | none => rw [q] at z; cases z
        | some cd => rfl
      exact PySem.W.kia_one (PySem.W.kitx_exc (od := od) hcl C.ga_ C.gg C.ex C.cl hn ht C.hm) I.kIn J e (fun z => nomatch z) fun tk => ⟨.bl b, H, I.kept (t' := tk) fun _ _ z => z, rfl, q⟩
theorem xfOf {K : PySem.W.Frag} {x : Str} (C : ErrC K x) : XfC K (ga K x) := ⟨C.ga_, C.gg, C.ex, C.hd⟩
theorem kitf {K : PySem.W.Frag} {x y : Str} (C : ErrC K x) (hy : y ∈ errs) (hne : x ≠ y) : PySem.W.kitOne K (.ref (ga K x)) (.ref (ga K y)) = some false := by rw [C.kit y hy, decide_eq_false hne]
theorem kitt {K : PySem.W.Frag} {x : Str} (C : ErrC K x) (hy : x ∈ errs) : PySem.W.kitOne K (.ref (ga K x)) (.ref (ga K x)) = some true := by rw [C.kit x hy, decide_eq_true rfl]
abbrev N__law_answer : List Str := ["_law_call", "e", "_law_others", "_law_rows"]
theorem sc__law_answer : FnScope N__law_answer ["_law_call"] (defScope S__law_answer) := ⟨rfl, rfl, rfl, by decide +kernel, rfl, by decide +kernel, by decide +kernel⟩
/-- the body, the suite -/
def ansTry : Stmt := (defBody S__law_answer).getD 0 (.Pass ⟨0, 0, 0, 0⟩)
def ansSuite : List Stmt := match ansTry with
  | .Try _ [.ExceptHandler _ _ ss _] _ _ _ => ss
  | _ => []
def xNames : List (Str × Str) := [("BadValue", "what"), ("NoName", "name"), ("TooMany", "limit")]
/-- what an exception is answered by -/
def EAns (K : PySem.W.Frag) (Q : VK) : XK := fun cls d H1 => (∃ x f, (x, f) ∈ xNames ∧ cls = .ref (ga K x) ∧ ∃ dd v, d = some dd ∧ H1 dd = some (.xd [(f, v)]) ∧ ∀ t H', Same H1 H' → H' t = some (.tup [.str x, v]) → Q (.ref t) H') ∨
  (cls = .ref (ga K "Endless") ∧ d = none ∧ ∀ t H', Same H1 H' → H' t = some (.tup [.str "Endless", .non]) → Q (.ref t) H')
theorem line7b {a b c d e f g : V} : ([a, b, c, d, e, f, g] : List V).length ≤ sizeLine := by show 7 ≤ sizeLine; decide
theorem line4b {a b c d : V} : ([a, b, c, d] : List V).length ≤ sizeLine := by show 4 ≤ sizeLine; decide
section
variable {P : Program} {w : World} {K : PySem.W.Frag} {mg : Str → Option Value} {base : Heap}
variable {g : Addr} {cdg : Value} {A : Around} {outer : List Env} {s : Shared} {H0 : Hp} {E : XK}
abbrev XA (P : Program) (w : World) (K : PySem.W.Frag) (mg : Str → Option Value) (base : Heap) (g : Addr) (cdg : Value) (A : Around) (outer : List Env) (s : Shared) (H0 : Hp) : Cx := (cxOf C8.CX0 P w K mg base N__law_answer "_law_answer" (defScope S__law_answer) g cdg A outer s H0 C8.E0).nox
/-- the suite's promise for an exception of the class x with the dict d -/
def SuiteOk (P : Program) (w : World) (K : PySem.W.Frag) (mg : Str → Option Value) (base : Heap) (g : Addr) (cdg : Value) (A : Around) (outer : List Env) (s : Shared) (H0 : Hp) (x : Str) (ts : Addr → Option Addr → TS) : Prop :=
  ∀ (a : Addr) (oe : Obj) (d : Option Addr) (pn : List (Addr × Obj)), Zc (.ref (ga K x)) d oe → (∃ vs, oe.data = .fields vs) → PSs ((XA P w K mg base g cdg A outer s H0).suite a ((a, oe) :: pn)) ansSuite (ts a d)
theorem hdOf {H1 : Hp} {dd : Addr} {fs : List (Str × V)} (h : H1 dd = some (.xd fs)) : ∀ d', some dd = some d' → ∃ fs, H1 d' = some (.xd fs) := fun d' e => by cases e; exact ⟨fs, h⟩
theorem xf_BadValue (T : Tx K mg) {x : Str} {a : Addr} {oe : Obj} {d : Option Addr} {pn : List (Addr × Obj)} (hz : Zc (.ref (ga K x)) d oe) (hf : ∃ vs, oe.data = .fields vs) {p1 p2 : Pos} :
    PE ((XA P w K mg base g cdg A outer s H0).suite a ((a, oe) :: pn)) (.Attribute (.Name "e" p1) "what" p2) (tXf a (.ref (ga K x)) d (ga K "BadValue") "what" (tVar 1)) :=
  pe_xf (X := XA P w K mg base g cdg A outer s H0) (xfOf T.r_BadValue) T.n_BadValue_what hz hf (pe_var rfl (.inl rfl))
theorem xf_NoName (T : Tx K mg) {x : Str} {a : Addr} {oe : Obj} {d : Option Addr} {pn : List (Addr × Obj)} (hz : Zc (.ref (ga K x)) d oe) (hf : ∃ vs, oe.data = .fields vs) {p1 p2 : Pos} :
    PE ((XA P w K mg base g cdg A outer s H0).suite a ((a, oe) :: pn)) (.Attribute (.Name "e" p1) "name" p2) (tXf a (.ref (ga K x)) d (ga K "NoName") "name" (tVar 1)) :=
  pe_xf (X := XA P w K mg base g cdg A outer s H0) (xfOf T.r_NoName) T.n_NoName_name hz hf (pe_var rfl (.inl rfl))
theorem xf_TooMany (T : Tx K mg) {x : Str} {a : Addr} {oe : Obj} {d : Option Addr} {pn : List (Addr × Obj)} (hz : Zc (.ref (ga K x)) d oe) (hf : ∃ vs, oe.data = .fields vs) {p1 p2 : Pos} :
    PE ((XA P w K mg base g cdg A outer s H0).suite a ((a, oe) :: pn)) (.Attribute (.Name "e" p1) "limit" p2) (tXf a (.ref (ga K x)) d (ga K "TooMany") "limit" (tVar 1)) :=
  pe_xf (X := XA P w K mg base g cdg A outer s H0) (xfOf T.r_TooMany) T.n_TooMany_limit hz hf (pe_var rfl (.inl rfl))
theorem suite_one (T : Tx K mg) {x : Str} (C : ErrC K x) {a : Addr} {oe : Obj} {d : Option Addr} {pn : List (Addr × Obj)} (hz : Zc (.ref (ga K x)) d oe) (hf : ∃ vs, oe.data = .fields vs) : ∃ t, PSs ((XA P w K mg base g cdg A outer s H0).suite a ((a, oe) :: pn)) ansSuite t ∧ ∀ (D : Ends) (c0 c2 c3 : Option V) (H1 : Hp),
    ((∃ f, (x, f) ∈ xNames ∧ ∃ dd v, d = some dd ∧ H1 dd = some (.xd [(f, v)]) ∧ ∀ t H', Same H1 H' → H' t = some (.tup [.str x, v]) → D.rt (.ref t) H') ∨ (x = "Endless" ∧ d = none ∧ ∀ t H', Same H1 H' → H' t = some (.tup [.str "Endless", .non]) → D.rt (.ref t) H')) → t D [c0, some (.ref a), c2, c3] H1 := by
  have sc := sc__law_answer
  refine ⟨_, (pss_cons (ps_set (i := 2) sc.nd rfl (Or.inl rfl) (pe_lst (pa_cons (pe_callB (call_isY C T.oc_get T.oc_tak hz hf) (by rfl) T.b_isinstance (by decide +kernel) (pa_cons (pv 1) (pa_cons (pe_glob (v := .ref (ga K "Mismatch")) rfl T.g_Mismatch rfl) pa_nil))) (pa_cons (pe_callB (call_isY C T.oc_get T.oc_tak hz hf) (by rfl) T.b_isinstance (by decide +kernel) (pa_cons (pv 1) (pa_cons (pe_glob (v := .ref (ga K "Still")) rfl T.g_Still rfl) pa_nil))) (pa_cons (pe_callB (call_isY C T.oc_get T.oc_tak hz hf) (by rfl) T.b_isinstance (by decide +kernel) (pa_cons (pv 1) (pa_cons (pe_glob (v := .ref (ga K "Taken")) rfl T.g_Taken rfl) pa_nil))) (pa_cons (pe_callB (call_isY C T.oc_get T.oc_tak hz hf) (by rfl) T.b_isinstance (by decide +kernel) (pa_cons (pv 1) (pa_cons (pe_glob (v := .ref (ga K "Locked")) rfl T.g_Locked rfl) pa_nil))) pa_nil))))))
      (pss_cons (ps_set (i := 2) sc.nd rfl (Or.inl rfl) (pe_op op_cat (pv 2) (pe_lst (pa_cons (pe_callB (call_isY C T.oc_get T.oc_tak hz hf) (by rfl) T.b_isinstance (by decide +kernel) (pa_cons (pv 1) (pa_cons (pe_glob (v := .ref (ga K "Looped")) rfl T.g_Looped rfl) pa_nil))) (pa_cons (pe_callB (call_isY C T.oc_get T.oc_tak hz hf) (by rfl) T.b_isinstance (by decide +kernel) (pa_cons (pv 1) (pa_cons (pe_glob (v := .ref (ga K "Broken")) rfl T.g_Broken rfl) pa_nil))) (pa_cons (pe_callB (call_isY C T.oc_get T.oc_tak hz hf) (by rfl) T.b_isinstance (by decide +kernel) (pa_cons (pv 1) (pa_cons (pe_glob (v := .ref (ga K "ReadError")) rfl T.g_ReadError rfl) pa_nil))) pa_nil))))))
      (pss_cons (ps_set (i := 3) sc.nd rfl (Or.inl rfl) (pe_lst pa_nil))
      (pss_cons (ps_if (pt_val (pe_callB (call_isY C T.oc_get T.oc_tak hz hf) (by rfl) T.b_isinstance (by decide +kernel) (pa_cons (pv 1) (pa_cons (pe_glob (v := .ref (ga K "BadValue")) rfl T.g_BadValue rfl) pa_nil)))) (pss_one (ps_expr (pe_bm PySem.F.plainAttrs_list PySem.F.slot_list_append PySem.F.type_list_append mt_append (pv 3) (pa_cons (pe_tup (pa_cons pe_str (pa_cons (xf_BadValue T hz hf) pa_nil))) pa_nil)))) pss_nil)
      (pss_cons (ps_if (pt_val (pe_callB (call_isY C T.oc_get T.oc_tak hz hf) (by rfl) T.b_isinstance (by decide +kernel) (pa_cons (pv 1) (pa_cons (pe_glob (v := .ref (ga K "NoName")) rfl T.g_NoName rfl) pa_nil)))) (pss_one (ps_expr (pe_bm PySem.F.plainAttrs_list PySem.F.slot_list_append PySem.F.type_list_append mt_append (pv 3) (pa_cons (pe_tup (pa_cons pe_str (pa_cons (xf_NoName T hz hf) pa_nil))) pa_nil)))) pss_nil)
      (pss_cons (ps_if (pt_val (pe_callB (call_isY C T.oc_get T.oc_tak hz hf) (by rfl) T.b_isinstance (by decide +kernel) (pa_cons (pv 1) (pa_cons (pe_glob (v := .ref (ga K "TooMany")) rfl T.g_TooMany rfl) pa_nil)))) (pss_one (ps_expr (pe_bm PySem.F.plainAttrs_list PySem.F.slot_list_append PySem.F.type_list_append mt_append (pv 3) (pa_cons (pe_tup (pa_cons pe_str (pa_cons (xf_TooMany T hz hf) pa_nil))) pa_nil)))) pss_nil)
      (pss_cons (ps_if (pt_val (pe_callB (call_isY C T.oc_get T.oc_tak hz hf) (by rfl) T.b_isinstance (by decide +kernel) (pa_cons (pv 1) (pa_cons (pe_glob (v := .ref (ga K "Endless")) rfl T.g_Endless rfl) pa_nil)))) (pss_one (ps_expr (pe_bm PySem.F.plainAttrs_list PySem.F.slot_list_append PySem.F.type_list_append mt_append (pv 3) (pa_cons (pe_tup (pa_cons pe_str (pa_cons pe_non pa_nil))) pa_nil)))) pss_nil)
      (pss_cons (ps_if (PW.pt (pw_or (pt_cmpR op_ne (pe_callB call_len (by rfl) T.b_len PySem.boot_len (pa_cons (pv 3) pa_nil)) pe_int (nomark _)) (pw_or (pt_cmpR op_in_seq pe_bl (pv 2) rfl) (pw_or1 (pt_not (pt_val (pe_callB (call_isY C T.oc_get T.oc_tak hz hf) (by rfl) T.b_isinstance (by decide +kernel) (pa_cons (pv 1) (pa_cons (pe_bltn (v := .ty "ValueError") rfl T.b_ValueError (by decide +kernel) rfl) pa_nil))))))))) (pss_one (ps_ret (pe_tup (pa_cons pe_str (pa_cons pe_non pa_nil))))) pss_nil)
      (pss_one (ps_ret (pe_ix ix_list (pv 3) pe_int (fun _ _ => rfl)))))))))))), ?_⟩
  rintro D c0 c2 c3 H1 h0
  have h' : (x = "BadValue" ∧ ∃ dd v, d = some dd ∧ H1 dd = some (.xd [("what", v)]) ∧ ∀ t H', Same H1 H' → H' t = some (.tup [.str x, v]) → D.rt (.ref t) H') ∨ (x = "NoName" ∧ ∃ dd v, d = some dd ∧ H1 dd = some (.xd [("name", v)]) ∧ ∀ t H', Same H1 H' → H' t = some (.tup [.str x, v]) → D.rt (.ref t) H') ∨
      (x = "TooMany" ∧ ∃ dd v, d = some dd ∧ H1 dd = some (.xd [("limit", v)]) ∧ ∀ t H', Same H1 H' → H' t = some (.tup [.str x, v]) → D.rt (.ref t) H') ∨ (x = "Endless" ∧ d = none ∧ ∀ t H', Same H1 H' → H' t = some (.tup [.str "Endless", .non]) → D.rt (.ref t) H') := by
    rcases h0 with ⟨f, hf, r⟩ | r
    · simp only [xNames, List.mem_cons, List.not_mem_nil, or_false, Prod.mk.injEq] at hf
      rcases hf with ⟨rfl, rfl⟩ | ⟨rfl, rfl⟩ | ⟨rfl, rfl⟩
      · exact .inl ⟨rfl, r⟩
      · exact .inr (.inl ⟨rfl, r⟩)
      · exact .inr (.inr (.inl ⟨rfl, r⟩))
    · exact .inr (.inr (.inr r))
  rcases h' with ⟨rfl, dd, v, rfl, hdd, h⟩ | ⟨rfl, dd, v, rfl, hdd, h⟩ | ⟨rfl, dd, v, rfl, hdd, h⟩ | ⟨rfl, rfl, h⟩
  · refine ⟨_, rfl, (hdOf ((Same.rfl' (H := H1)) _ _ hdd)), _, _, false, rfl, fun u r => r, kitf C (by decide) (by decide), _, rfl, (hdOf ((Same.rfl' (H := H1)) _ _ hdd)), _, _, false, rfl, fun u r => r, kitf C (by decide) (by decide), _, rfl, (hdOf ((Same.rfl' (H := H1)) _ _ hdd)), _, _, false, rfl, fun u r => r, kitf C (by decide) (by decide), _, rfl, (hdOf ((Same.rfl' (H := H1)) _ _ hdd)), _, _, false, rfl, fun u r => r, kitf C (by decide) (by decide), line4b, fun l1 h1 => ?_⟩
    have n1 := same_new (o := .lst [.bl false, .bl false, .bl false, .bl false]) h1
    refine ⟨_, rfl, _, rfl, (hdOf (n1 _ _ hdd)), _, _, false, rfl, fun u r => r, kitf C (by decide) (by decide), _, rfl, (hdOf (n1 _ _ hdd)), _, _, false, rfl, fun u r => r, kitf C (by decide) (by decide), _, rfl, (hdOf (n1 _ _ hdd)), _, _, false, rfl, fun u r => r, kitf C (by decide) (by decide), line3b, fun l2 h2 => ?_⟩
    have k2 := same_new (o := .lst [.bl false, .bl false, .bl false]) h2
    have n2 := Same.trans' n1 k2
    refine ⟨l1, l2, _, _, rfl, rfl, k2 _ _ upd_same, upd_same, (show (7 : Nat) ≤ sizeLine by decide), fun l3 h3 => ?_⟩
    have n3 := Same.new (o := .lst ([V.bl false, .bl false, .bl false, .bl false] ++ [.bl false, .bl false, .bl false])) n2 h3
    refine ⟨by decide, fun lr hr => ?_⟩
    have k4 := same_new (o := .lst []) hr
    have n4 := Same.trans' n3 k4
    have hl3 := k4 _ _ (upd_same (H := upd (upd H1 l1 (.lst [.bl false, .bl false, .bl false, .bl false])) l2 (.lst [.bl false, .bl false, .bl false])) (o := .lst ([V.bl false, .bl false, .bl false, .bl false] ++ [.bl false, .bl false, .bl false])))
    have r0 : H1 lr = none := none_of n3 hr
    have ne3 : l3 ≠ lr := by rintro rfl; rw [upd_same] at hr; cases hr
    refine ⟨_, rfl, (hdOf (n4 _ _ hdd)), _, _, true, rfl, fun u r => r, kitt C (by decide), true, rfl, iteT ⟨_, rfl, tyL upd_same, _, rfl, rfl, rfl, dd, _, v, rfl, n4 _ _ hdd, rfl, line2, fun t ht => ⟨lr, [], _, rfl, rfl, same_new ht _ _ upd_same, by decide, ?_⟩⟩⟩
    have n5 := Same.new (o := .tup [.str "BadValue", v]) n4 ht
    have n6 := Same.own (o := .lst ([] ++ [V.ref t])) r0 n5
    refine ⟨_, rfl, (hdOf (n6 _ _ hdd)), _, _, false, rfl, fun u r => r, kitf C (by decide) (by decide), false, rfl, iteF ?_⟩
    refine ⟨_, rfl, (hdOf (n6 _ _ hdd)), _, _, false, rfl, fun u r => r, kitf C (by decide) (by decide), false, rfl, iteF ?_⟩
    refine ⟨_, rfl, (hdOf (n6 _ _ hdd)), _, _, false, rfl, fun u r => r, kitf C (by decide) (by decide), false, rfl, iteF ?_⟩
    have ht6 : ∀ {X : Hp} {o : HO}, X t = some o → (∀ xs, o ≠ .lst xs) → X lr = some (.lst []) → upd X lr (.lst ([] ++ [V.ref t])) t = some o := fun a b c => SameL.upd c _ _ a b
    refine ⟨_, rfl, .ref lr, 1, rfl, lenL upd_same, rfl, _, rfl, ifNe (fun ne => absurd rfl ne) (fun _ => ?_)⟩
    refine ⟨_, rfl, l3, _, rfl, .inl (SqL.of (by rw [upd_ne ne3]; exact same_new ht _ _ hl3)), rfl, rfl, _, rfl, ifIn rfl ?_⟩
    refine ⟨_, rfl, (hdOf (n6 _ _ hdd)), _, _, true, rfl, fun u r => r, C.ve, true, rfl, iteF ?_⟩
    refine ⟨_, rfl, lr, _, _, _, rfl, rfl, SqL.of upd_same, at_0, ?_⟩
    exact h t _ n6 (ht6 upd_same (fun _ z => nomatch z) (same_new ht _ _ upd_same))
  · refine ⟨_, rfl, (hdOf ((Same.rfl' (H := H1)) _ _ hdd)), _, _, false, rfl, fun u r => r, kitf C (by decide) (by decide), _, rfl, (hdOf ((Same.rfl' (H := H1)) _ _ hdd)), _, _, false, rfl, fun u r => r, kitf C (by decide) (by decide), _, rfl, (hdOf ((Same.rfl' (H := H1)) _ _ hdd)), _, _, false, rfl, fun u r => r, kitf C (by decide) (by decide), _, rfl, (hdOf ((Same.rfl' (H := H1)) _ _ hdd)), _, _, false, rfl, fun u r => r, kitf C (by decide) (by decide), line4b, fun l1 h1 => ?_⟩
    have n1 := same_new (o := .lst [.bl false, .bl false, .bl false, .bl false]) h1
    refine ⟨_, rfl, _, rfl, (hdOf (n1 _ _ hdd)), _, _, false, rfl, fun u r => r, kitf C (by decide) (by decide), _, rfl, (hdOf (n1 _ _ hdd)), _, _, false, rfl, fun u r => r, kitf C (by decide) (by decide), _, rfl, (hdOf (n1 _ _ hdd)), _, _, false, rfl, fun u r => r, kitf C (by decide) (by decide), line3b, fun l2 h2 => ?_⟩
    have k2 := same_new (o := .lst [.bl false, .bl false, .bl false]) h2
    have n2 := Same.trans' n1 k2
    refine ⟨l1, l2, _, _, rfl, rfl, k2 _ _ upd_same, upd_same, (show (7 : Nat) ≤ sizeLine by decide), fun l3 h3 => ?_⟩
    have n3 := Same.new (o := .lst ([V.bl false, .bl false, .bl false, .bl false] ++ [.bl false, .bl false, .bl false])) n2 h3
    refine ⟨by decide, fun lr hr => ?_⟩
    have k4 := same_new (o := .lst []) hr
    have n4 := Same.trans' n3 k4
    have hl3 := k4 _ _ (upd_same (H := upd (upd H1 l1 (.lst [.bl false, .bl false, .bl false, .bl false])) l2 (.lst [.bl false, .bl false, .bl false])) (o := .lst ([V.bl false, .bl false, .bl false, .bl false] ++ [.bl false, .bl false, .bl false])))
    have r0 : H1 lr = none := none_of n3 hr
    have ne3 : l3 ≠ lr := by rintro rfl; rw [upd_same] at hr; cases hr
    refine ⟨_, rfl, (hdOf (n4 _ _ hdd)), _, _, false, rfl, fun u r => r, kitf C (by decide) (by decide), false, rfl, iteF ?_⟩
    refine ⟨_, rfl, (hdOf (n4 _ _ hdd)), _, _, true, rfl, fun u r => r, kitt C (by decide), true, rfl, iteT ⟨_, rfl, tyL upd_same, _, rfl, rfl, rfl, dd, _, v, rfl, n4 _ _ hdd, rfl, line2, fun t ht => ⟨lr, [], _, rfl, rfl, same_new ht _ _ upd_same, by decide, ?_⟩⟩⟩
    have n5 := Same.new (o := .tup [.str "NoName", v]) n4 ht
    have n6 := Same.own (o := .lst ([] ++ [V.ref t])) r0 n5
    refine ⟨_, rfl, (hdOf (n6 _ _ hdd)), _, _, false, rfl, fun u r => r, kitf C (by decide) (by decide), false, rfl, iteF ?_⟩
    refine ⟨_, rfl, (hdOf (n6 _ _ hdd)), _, _, false, rfl, fun u r => r, kitf C (by decide) (by decide), false, rfl, iteF ?_⟩
    have ht6 : ∀ {X : Hp} {o : HO}, X t = some o → (∀ xs, o ≠ .lst xs) → X lr = some (.lst []) → upd X lr (.lst ([] ++ [V.ref t])) t = some o := fun a b c => SameL.upd c _ _ a b
    refine ⟨_, rfl, .ref lr, 1, rfl, lenL upd_same, rfl, _, rfl, ifNe (fun ne => absurd rfl ne) (fun _ => ?_)⟩
    refine ⟨_, rfl, l3, _, rfl, .inl (SqL.of (by rw [upd_ne ne3]; exact same_new ht _ _ hl3)), rfl, rfl, _, rfl, ifIn rfl ?_⟩
    refine ⟨_, rfl, (hdOf (n6 _ _ hdd)), _, _, true, rfl, fun u r => r, C.ve, true, rfl, iteF ?_⟩
    refine ⟨_, rfl, lr, _, _, _, rfl, rfl, SqL.of upd_same, at_0, ?_⟩
    exact h t _ n6 (ht6 upd_same (fun _ z => nomatch z) (same_new ht _ _ upd_same))
  · refine ⟨_, rfl, (hdOf ((Same.rfl' (H := H1)) _ _ hdd)), _, _, false, rfl, fun u r => r, kitf C (by decide) (by decide), _, rfl, (hdOf ((Same.rfl' (H := H1)) _ _ hdd)), _, _, false, rfl, fun u r => r, kitf C (by decide) (by decide), _, rfl, (hdOf ((Same.rfl' (H := H1)) _ _ hdd)), _, _, false, rfl, fun u r => r, kitf C (by decide) (by decide), _, rfl, (hdOf ((Same.rfl' (H := H1)) _ _ hdd)), _, _, false, rfl, fun u r => r, kitf C (by decide) (by decide), line4b, fun l1 h1 => ?_⟩
    have n1 := same_new (o := .lst [.bl false, .bl false, .bl false, .bl false]) h1
    refine ⟨_, rfl, _, rfl, (hdOf (n1 _ _ hdd)), _, _, false, rfl, fun u r => r, kitf C (by decide) (by decide), _, rfl, (hdOf (n1 _ _ hdd)), _, _, false, rfl, fun u r => r, kitf C (by decide) (by decide), _, rfl, (hdOf (n1 _ _ hdd)), _, _, false, rfl, fun u r => r, kitf C (by decide) (by decide), line3b, fun l2 h2 => ?_⟩
    have k2 := same_new (o := .lst [.bl false, .bl false, .bl false]) h2
    have n2 := Same.trans' n1 k2
    refine ⟨l1, l2, _, _, rfl, rfl, k2 _ _ upd_same, upd_same, (show (7 : Nat) ≤ sizeLine by decide), fun l3 h3 => ?_⟩
    have n3 := Same.new (o := .lst ([V.bl false, .bl false, .bl false, .bl false] ++ [.bl false, .bl false, .bl false])) n2 h3
    refine ⟨by decide, fun lr hr => ?_⟩
    have k4 := same_new (o := .lst []) hr
    have n4 := Same.trans' n3 k4
    have hl3 := k4 _ _ (upd_same (H := upd (upd H1 l1 (.lst [.bl false, .bl false, .bl false, .bl false])) l2 (.lst [.bl false, .bl false, .bl false])) (o := .lst ([V.bl false, .bl false, .bl false, .bl false] ++ [.bl false, .bl false, .bl false])))
    have r0 : H1 lr = none := none_of n3 hr
    have ne3 : l3 ≠ lr := by rintro rfl; rw [upd_same] at hr; cases hr
    refine ⟨_, rfl, (hdOf (n4 _ _ hdd)), _, _, false, rfl, fun u r => r, kitf C (by decide) (by decide), false, rfl, iteF ?_⟩
    refine ⟨_, rfl, (hdOf (n4 _ _ hdd)), _, _, false, rfl, fun u r => r, kitf C (by decide) (by decide), false, rfl, iteF ?_⟩
    refine ⟨_, rfl, (hdOf (n4 _ _ hdd)), _, _, true, rfl, fun u r => r, kitt C (by decide), true, rfl, iteT ⟨_, rfl, tyL upd_same, _, rfl, rfl, rfl, dd, _, v, rfl, n4 _ _ hdd, rfl, line2, fun t ht => ⟨lr, [], _, rfl, rfl, same_new ht _ _ upd_same, by decide, ?_⟩⟩⟩
    have n5 := Same.new (o := .tup [.str "TooMany", v]) n4 ht
    have n6 := Same.own (o := .lst ([] ++ [V.ref t])) r0 n5
    refine ⟨_, rfl, (hdOf (n6 _ _ hdd)), _, _, false, rfl, fun u r => r, kitf C (by decide) (by decide), false, rfl, iteF ?_⟩
    have ht6 : ∀ {X : Hp} {o : HO}, X t = some o → (∀ xs, o ≠ .lst xs) → X lr = some (.lst []) → upd X lr (.lst ([] ++ [V.ref t])) t = some o := fun a b c => SameL.upd c _ _ a b
    refine ⟨_, rfl, .ref lr, 1, rfl, lenL upd_same, rfl, _, rfl, ifNe (fun ne => absurd rfl ne) (fun _ => ?_)⟩
    refine ⟨_, rfl, l3, _, rfl, .inl (SqL.of (by rw [upd_ne ne3]; exact same_new ht _ _ hl3)), rfl, rfl, _, rfl, ifIn rfl ?_⟩
    refine ⟨_, rfl, (hdOf (n6 _ _ hdd)), _, _, true, rfl, fun u r => r, C.ve, true, rfl, iteF ?_⟩
    refine ⟨_, rfl, lr, _, _, _, rfl, rfl, SqL.of upd_same, at_0, ?_⟩
    exact h t _ n6 (ht6 upd_same (fun _ z => nomatch z) (same_new ht _ _ upd_same))
  · refine ⟨_, rfl, (fun _ z => nomatch z), _, _, false, rfl, fun u r => r, kitf C (by decide) (by decide), _, rfl, (fun _ z => nomatch z), _, _, false, rfl, fun u r => r, kitf C (by decide) (by decide), _, rfl, (fun _ z => nomatch z), _, _, false, rfl, fun u r => r, kitf C (by decide) (by decide), _, rfl, (fun _ z => nomatch z), _, _, false, rfl, fun u r => r, kitf C (by decide) (by decide), line4b, fun l1 h1 => ?_⟩
    have n1 := same_new (o := .lst [.bl false, .bl false, .bl false, .bl false]) h1
    refine ⟨_, rfl, _, rfl, (fun _ z => nomatch z), _, _, false, rfl, fun u r => r, kitf C (by decide) (by decide), _, rfl, (fun _ z => nomatch z), _, _, false, rfl, fun u r => r, kitf C (by decide) (by decide), _, rfl, (fun _ z => nomatch z), _, _, false, rfl, fun u r => r, kitf C (by decide) (by decide), line3b, fun l2 h2 => ?_⟩
    have k2 := same_new (o := .lst [.bl false, .bl false, .bl false]) h2
    have n2 := Same.trans' n1 k2
    refine ⟨l1, l2, _, _, rfl, rfl, k2 _ _ upd_same, upd_same, (show (7 : Nat) ≤ sizeLine by decide), fun l3 h3 => ?_⟩
    have n3 := Same.new (o := .lst ([V.bl false, .bl false, .bl false, .bl false] ++ [.bl false, .bl false, .bl false])) n2 h3
    refine ⟨by decide, fun lr hr => ?_⟩
    have k4 := same_new (o := .lst []) hr
    have n4 := Same.trans' n3 k4
    have hl3 := k4 _ _ (upd_same (H := upd (upd H1 l1 (.lst [.bl false, .bl false, .bl false, .bl false])) l2 (.lst [.bl false, .bl false, .bl false])) (o := .lst ([V.bl false, .bl false, .bl false, .bl false] ++ [.bl false, .bl false, .bl false])))
    have r0 : H1 lr = none := none_of n3 hr
    have ne3 : l3 ≠ lr := by rintro rfl; rw [upd_same] at hr; cases hr
    refine ⟨_, rfl, (fun _ z => nomatch z), _, _, false, rfl, fun u r => r, kitf C (by decide) (by decide), false, rfl, iteF ?_⟩
    refine ⟨_, rfl, (fun _ z => nomatch z), _, _, false, rfl, fun u r => r, kitf C (by decide) (by decide), false, rfl, iteF ?_⟩
    refine ⟨_, rfl, (fun _ z => nomatch z), _, _, false, rfl, fun u r => r, kitf C (by decide) (by decide), false, rfl, iteF ?_⟩
    refine ⟨_, rfl, (fun _ z => nomatch z), _, _, true, rfl, fun u r => r, kitt C (by decide), true, rfl, iteT ⟨_, rfl, tyL upd_same, line2, fun t ht => ⟨lr, [], _, rfl, rfl, same_new ht _ _ upd_same, by decide, ?_⟩⟩⟩
    have n5 := Same.new (o := .tup [.str "Endless", .non]) n4 ht
    have n6 := Same.own (o := .lst ([] ++ [V.ref t])) r0 n5
    have ht6 : ∀ {X : Hp} {o : HO}, X t = some o → (∀ xs, o ≠ .lst xs) → X lr = some (.lst []) → upd X lr (.lst ([] ++ [V.ref t])) t = some o := fun a b c => SameL.upd c _ _ a b
    refine ⟨_, rfl, .ref lr, 1, rfl, lenL upd_same, rfl, _, rfl, ifNe (fun ne => absurd rfl ne) (fun _ => ?_)⟩
    refine ⟨_, rfl, l3, _, rfl, .inl (SqL.of (by rw [upd_ne ne3]; exact same_new ht _ _ hl3)), rfl, rfl, _, rfl, ifIn rfl ?_⟩
    refine ⟨_, rfl, (fun _ z => nomatch z), _, _, true, rfl, fun u r => r, C.ve, true, rfl, iteF ?_⟩
    refine ⟨_, rfl, lr, _, _, _, rfl, rfl, SqL.of upd_same, at_0, ?_⟩
    exact h t _ n6 (ht6 upd_same (fun _ z => nomatch z) (same_new ht _ _ upd_same))
/-- any exception of ours -/
def ansTs (P : Program) (w : World) (K : PySem.W.Frag) (mg : Str → Option Value) (base : Heap) (g : Addr) (cdg : Value) (A : Around) (outer : List Env) (s : Shared) (H0 : Hp) (a : Addr) (cls : Value) (d : Option Addr) : TS := fun D σ H =>
  ∀ (oe : Obj) (pn : List (Addr × Obj)), Zc cls d oe → (∃ vs, oe.data = .fields vs) → ∀ (pins : List (Addr × Obj)) (s' : Shared), Inv ((XA P w K mg base g cdg A outer s H0).suite a ((a, oe) :: pn)) pins σ H s' →
    wpAny (model P w) ((XA P w K mg base g cdg A outer s H0).suite a ((a, oe) :: pn)).A (execs ansSuite ((XA P w K mg base g cdg A outer s H0).suite a ((a, oe) :: pn)).env) (SP ((XA P w K mg base g cdg A outer s H0).suite a ((a, oe) :: pn)) pins D) ((XA P w K mg base g cdg A outer s H0).suite a ((a, oe) :: pn)).xe s'
theorem ansTs_ok {a : Addr} {oe : Obj} {cls : Value} {d : Option Addr} {pn : List (Addr × Obj)} (hz : Zc cls d oe) (hf : ∃ vs, oe.data = .fields vs) : PSs ((XA P w K mg base g cdg A outer s H0).suite a ((a, oe) :: pn)) ansSuite (ansTs P w K mg base g cdg A outer s H0 a cls d) :=
  ⟨fun pins s' σ H D I h => h oe pn hz hf pins s' I⟩
theorem exm_of (T : Tx K mg) {x f : Str} (h : (x, f) ∈ xNames) : PySem.W.exmOne K (.ref (ga K x)) (.ref (ga K "SkyError")) = some true ∧ ErrC K x := by
  simp only [xNames, List.mem_cons, List.not_mem_nil, or_false, Prod.mk.injEq] at h
  rcases h with ⟨rfl, rfl⟩ | ⟨rfl, rfl⟩ | ⟨rfl, rfl⟩
  · exact ⟨T.x_BadValue, T.r_BadValue⟩
  · exact ⟨T.x_NoName, T.r_NoName⟩
  · exact ⟨T.x_TooMany, T.r_TooMany⟩
theorem ans_clause (T : Tx K mg) {Q : VK} {σ : L2.St} {cls : Value} {d : Option Addr} {H : Hp} {D : Ends} (hD : D.rt = Q) (h : EAns K Q cls d H) : wAs K (.ref (ga K "SkyError")) 1 (ansTs P w K mg base g cdg A outer s H0) (fun _ _ _ _ => False) D cls d σ H := by
  subst hD
  have four : ∀ {σ : L2.St} {a : Addr}, (σ.set 1 (some (V.ref a))).length = 4 → ∃ c0 c2 c3, σ.set 1 (some (V.ref a)) = [c0, some (.ref a), c2, c3] := fun {σ a} hl => by
    rw [List.length_set] at hl
    match σ, hl with
    | [c0, c1, c2, c3], _ => exact ⟨c0, c2, c3, rfl⟩
  rcases h with ⟨x, f, hx, rfl, dd, v, rfl, hdd, h⟩ | ⟨rfl, rfl, h⟩
  · obtain ⟨e, C⟩ := exm_of T hx
    refine ⟨true, e, fun _ a _ oe pn hz hf pins s' I => ?_, fun z => nomatch z⟩
    obtain ⟨t, ht, hr⟩ := suite_one (P := P) (w := w) (base := base) (g := g) (cdg := cdg) (A := A) (outer := outer) (s := s) (H0 := H0) (a := a) (pn := pn) T C hz hf
    obtain ⟨c0, c2, c3, e4⟩ := four I.len
    refine ht.run pins s' _ H _ I ?_
    rw [e4]
    exact hr _ c0 c2 c3 H (.inl ⟨f, hx, dd, v, rfl, hdd, h⟩)
  · refine ⟨true, T.x_Endless, fun _ a _ oe pn hz hf pins s' I => ?_, fun z => nomatch z⟩
    obtain ⟨t, ht, hr⟩ := suite_one (P := P) (w := w) (base := base) (g := g) (cdg := cdg) (A := A) (outer := outer) (s := s) (H0 := H0) (a := a) (pn := pn) T T.r_Endless hz hf
    obtain ⟨c0, c2, c3, e4⟩ := four I.len
    refine ht.run pins s' _ H _ I ?_
    rw [e4]
    exact hr _ c0 c2 c3 H (.inr ⟨rfl, rfl, h⟩)
end
/-- told: what the lambda's value becomes -/
def TAns (K : PySem.W.Frag) : (XK → Hp → VK → Prop) → Hp → VK → Prop := fun tl H Q =>
  tl (EAns K Q) H fun v H1 => [V.str "told", v].length ≤ sizeLine ∧ ∀ p, H1 p = none → Q (.ref p) (upd H1 p (.tup [.str "told", v]))
theorem ans_gives {X : Cx} (T : Tx X.K X.mg) {q : Str} {g : Addr} {cdg : Value} : LamX.GivesTo X N__law_answer "_law_answer" (defScope S__law_answer) g cdg (defBody S__law_answer) "_law_call" q (TAns X.K) := by
  intro f c' s H Q tl act hc h
  have sc := sc__law_answer
  have hgl : Gl (XA X.prog X.w X.K X.mg X.base g cdg X.A X.stack s H) "SkyError" := by rfl
  refine ⟨_, pss_one (ps_try_as (X := XA X.prog X.w X.K X.mg X.base g cdg X.A X.stack s H) (i := 1) (n := "e") (x := "SkyError") (c := .ref (ga X.K "SkyError")) (Wout := fun _ _ _ _ => False)
      (tb := fun W D σ H => ∃ Ech : XK, (∀ cls d σ' H', Ech cls d H' → W cls d σ' H') ∧ σ[0]? = some (some (.ref f)) ∧ H c' = some (LamX.CodeO c' q) ∧ tl Ech H fun v H1 => [V.str "told", v].length ≤ sizeLine ∧ ∀ p, H1 p = none → D.rt (.ref p) (upd H1 p (.tup [.str "told", v])))
      rfl rfl sc.nd rfl rfl ⟨hgl, by decide, .inl T.g_SkyError⟩ LamX.takes0 (fun W pn xe tk _ => ?_) (fun a oe cls d pn hz hf => ansTs_ok hz hf)), ?_⟩
  · refine ⟨fun pins s' σ H' D I h' => ?_⟩
    obtain ⟨Ech, hW, h1, h2, h3⟩ := h'
    have hp := fun p1 p2 => act W pn xe Ech p1 p2 tk hW
    exact (pss_one (ps_ret (pe_tup (pa_cons pe_str (pa_cons (hp _ _) pa_nil))))).run pins s' σ H' D I ⟨h1, h2, h3⟩
  · exact ⟨EAns X.K Q, fun cls d σ' H' e => ans_clause T rfl e, rfl, hc, h⟩
end Wk
set_option maxHeartbeats 4000000
namespace Wk
open PySem PySem.Spec PyProof.Rows L2
theorem at0 {α : Type} {xs : List α} {i : Nat} {v : α} (h : xs[i]? = some v) : atI xs (0 + (i : Int)) = some v := by rw [Int.zero_add]; exact atI_nat h
theorem al_fr {K : PySem.W.Frag} {H : Hp} {a b : V} {x : Rat} {n : Nat} (ha : FrV H a x) (hb : FrV H b x) : Al K H (n + 2) a b := by
  obtain ⟨p, rfl, hp⟩ := ha
  obtain ⟨q, rfl, hq⟩ := hb
  refine .inr (.inr (.inr (.inr ⟨p, q, _, _, rfl, rfl, hp, hq, rfl, by simp, fun i x y hx hy => ?_⟩)))
  rw [hx] at hy; cases hy
  have := List.mem_of_getElem? hx
  simp only [List.mem_cons, List.not_mem_nil, or_false] at this
  rcases this with rfl | rfl <;> exact .inr (.inl ⟨_, rfl, rfl⟩)
theorem al_strs {K : PySem.W.Frag} {H : Hp} {p q : Addr} {ns : List Str} {n : Nat} (hp : H p = some (.lst (ns.map V.str))) (hq : H q = some (.lst (ns.map V.str))) (h : ns.length ≤ 1000) : Al K H (n + 2) (.ref p) (.ref q) := by
  refine .inr (.inr (.inr (.inl ⟨p, q, _, _, rfl, rfl, hp, hq, rfl, by simpa using h, fun i x y hx hy => ?_⟩)))
  rw [hx] at hy; cases hy
  rw [List.getElem?_map] at hx
  obtain ⟨u, _, rfl⟩ := Option.map_eq_some_iff.mp hx
  exact .inr (.inr (.inl ⟨u, rfl, rfl⟩))
theorem al_3 {K : PySem.W.Frag} {H : Hp} {p q : Addr} {n : Str} {a b c d : V} {x y : Rat} {m : Nat} (hp : H p = some (.lst [.str n, a, b])) (hq : H q = some (.lst [.str n, c, d])) (h1 : FrV H a x) (h2 : FrV H c x) (h3 : FrV H b y) (h4 : FrV H d y) : Al K H (m + 3) (.ref p) (.ref q) := by
  refine .inr (.inr (.inr (.inl ⟨p, q, _, _, rfl, rfl, hp, hq, rfl, by simp, fun i u v hu hv => ?_⟩)))
  match i, hu, hv with
  | 0, hu, hv => cases hu; cases hv; exact .inr (.inr (.inl ⟨n, rfl, rfl⟩))
  | 1, hu, hv => cases hu; cases hv; exact al_fr h1 h2
  | 2, hu, hv => cases hu; cases hv; exact al_fr h3 h4
section
variable {P : Program} {w : World} {K : PySem.W.Frag} {mg : Str → Option Value} {base : Heap}
def spRowsR (K : PySem.W.Frag) : Sp := sp3 fun s nm rw H Q _ => ∃ p ns ds ln lr xs, s = .ref p ∧ SkyA K H p ns ds ∧ nm = .ref ln ∧ H ln = some (.lst (List.map V.str ns)) ∧ rw = .ref lr ∧ H lr = some (.lst xs) ∧ RowsF H xs ds ∧ NamesOk ns ∧ ns.length ≤ 8 ∧ (∀ d ∈ ds, 0 ≤ d.2 ∧ d.2 < 1) ∧
  ∀ H', Same H H' → Q (.bl true) H'
abbrev N__law_rows_right : List Str := ["_law_sky", "_law_names", "_law_rows", "_law_told", "_law_row", "_law_k", "_law_cycle", "_law_due"]
theorem sc__law_rows_right : FnScope N__law_rows_right ["_law_sky", "_law_names", "_law_rows"] (defScope S__law_rows_right) := ⟨rfl, rfl, rfl, by decide +kernel, rfl, by decide +kernel, by decide +kernel⟩
theorem ok__law_rows_right (T : Tx K mg) (d_Sky_eq : OkM P w K mg base 4 "Sky" "__eq__" ["self", "other"] (spEq (rSkyEq K))) (d_Sky_init : OkM P w K mg base 3 "Sky" "__init__" ["self", "rows"] (spSkyInit K)) (d_Cycle_init : OkM P w K mg base 4 "Cycle" "__init__" ["self", "rate", "start"] (spCyInit K)) (d__law_alike : Ok P w K mg base 4 "_law_alike" ["_law_told", "_law_due"] (spAlike K 4)) (d_names : OkP P w K mg base 1 ["self"] (spNames K)) (d_Sky_iter : IterOk P w K mg base 1 (ga K "Sky") (He.ma K (ga K "Sky") "__iter__"))  : Ok P w K mg base 6 "_law_rows_right" ["_law_sky", "_law_names", "_law_rows"] (spRowsR K) := by
  obtain ⟨fd, F⟩ := T.f__law_rows_right
  have sc := sc__law_rows_right
  refine okFN (F := F) T.g__law_rows_right F.kp (F.bindsN fun _ _ _ _ _ _ us hl => match us, hl with | [_, _, _], _ => rfl) sc sp3_len (fun cdv A outer s H vs Q E hr h => ?_)
  obtain ⟨u, v, z, rfl, h⟩ := h
  refine ⟨_, (pss_cons (ps_setLc (i := 3) rfl sc.nd rfl rfl (sw_true rfl rfl rfl (by decide +kernel)) (pi_own (pv 0) T.t_Sky_iter.at_ T.t_Sky_iter.fn d_Sky_iter (hr.mono (by decide))) (blkOk_by (N := N__law_rows_right) (sc := defScope S__law_rows_right) (own := [("_law_row", 4)]) (by decide +kernel)) (fun _ _ _ _ _ => (pg_name (i := 4) sc.nd rfl (Or.inl rfl))) (fun _ _ _ _ _ => pts_nil) (fun _ _ _ _ _ => (pv 4)))
      (pss_cons (ps_if (PW.pt (pw_or (pt_cmpR op_ne (pe_callB call_len (by rfl) T.b_len PySem.boot_len (pa_cons (pv 3) pa_nil)) (pe_callB call_len (by rfl) T.b_len PySem.boot_len (pa_cons (pv 2) pa_nil)) (nomark _)) (pw_or1 (pt_not (pt_val (pe_f d__law_alike (hr.mono (by decide)) rfl passL (pa_cons (pe_prop (pv 0) T.c_Sky T.q_names d_names.fn (hr.mono (by decide)) d_names.b .nil passL rfl) (pa_cons (pv 1) pa_nil)))))))) (pss_one (ps_ret pe_bl)) pss_nil)
      (pss_cons (ps_for PassesOwn.never rfl (pi_range1 (by rfl) T.b_range (pa_cons (pe_callB call_len (by rfl) T.b_len PySem.boot_len (pa_cons (pv 2) pa_nil)) pa_nil)) (pg_name (i := 5) sc.nd rfl (Or.inl rfl)) (pss_cons (ps_if (PW.pt (pw_or (pt_not (pt_val (pe_callB call_isi (by rfl) T.b_isinstance (by decide +kernel) (pa_cons (pe_ix ix_list (pv 3) (pv 5) (fun _ _ => rfl)) (pa_cons (pe_bltn (v := .ty "tuple") rfl T.b_tuple (by decide +kernel) rfl) pa_nil))))) (pw_or (pt_cmpR op_ne (pe_callB call_len (by rfl) T.b_len PySem.boot_len (pa_cons (pe_ix ix_list (pv 3) (pv 5) (fun _ _ => rfl)) pa_nil)) pe_int (nomark _)) (pw_or1 (pt_not (pt_val (pe_callB call_isi (by rfl) T.b_isinstance (by decide +kernel) (pa_cons (pe_ix ix_tup (pe_ix ix_list (pv 3) (pv 5) (fun _ _ => rfl)) pe_int (fun _ _ => rfl)) (pa_cons (pe_glob (v := .ref (ga K "Cycle")) rfl T.g_Cycle rfl) pa_nil))))))))) (pss_one (ps_ret pe_bl)) pss_nil)
      (pss_cons (ps_set (i := 6) sc.nd rfl (Or.inl rfl) (pe_ix ix_tup (pe_ix ix_list (pv 3) (pv 5) (fun _ _ => rfl)) pe_int (fun _ _ => rfl)))
      (pss_cons (ps_if (pt_not (pt_val (pe_f d__law_alike (hr.mono (by decide)) rfl passL (pa_cons (pe_lst (pa_cons (pe_ix ix_tup (pe_ix ix_list (pv 3) (pv 5) (fun _ _ => rfl)) pe_int (fun _ _ => rfl)) (pa_cons (pe_fld (pv 6) rfl) (pa_cons (pe_fld (pv 6) rfl) pa_nil)))) (pa_cons (pe_lst (pa_cons (pe_ix ix_list (pv 1) (pv 5) (fun _ _ => rfl)) (pa_cons (pe_ix ix_tup (pe_ix ix_list (pv 2) (pv 5) (fun _ _ => rfl)) pe_int (fun _ _ => rfl)) (pa_cons (pe_ix ix_tup (pe_ix ix_list (pv 2) (pv 5) (fun _ _ => rfl)) pe_int (fun _ _ => rfl)) pa_nil)))) pa_nil))))) (pss_one (ps_ret pe_bl)) pss_nil)
      (pss_cons (ps_set (i := 7) sc.nd rfl (Or.inl rfl) (pe_ifExp (pt_cmpR op_ne (pe_ix ix_tup (pe_ix ix_tup (pe_ix ix_list (pv 2) (pv 5) (fun _ _ => rfl)) pe_int (fun _ _ => rfl)) pe_int (fun _ _ => rfl)) pe_int (nomark _)) (pe_tup (pa_cons (pe_ix ix_tup (pe_ix ix_tup (pe_ix ix_list (pv 2) (pv 5) (fun _ _ => rfl)) pe_int (fun _ _ => rfl)) pe_int (fun _ _ => rfl)) (pa_cons (pe_callB call_abs (by rfl) T.b_abs (by decide +kernel) (pa_cons (pe_ix ix_tup (pe_ix ix_tup (pe_ix ix_list (pv 2) (pv 5) (fun _ _ => rfl)) pe_int (fun _ _ => rfl)) pe_int (fun _ _ => rfl)) pa_nil)) pa_nil))) pe_non))
      (pss_one (ps_if (pt_not (pt_val (pe_f d__law_alike (hr.mono (by decide)) rfl passL (pa_cons (pe_fld (pv 6) rfl) (pa_cons (pv 7) pa_nil))))) (pss_one (ps_ret pe_bl)) pss_nil)))))))
      (pss_one (ps_ret (pe_cmpR (op_eqG (rcG_ins d_Sky_eq.fn T.t_Sky_eq.at_ T.t_Sky_eq.fn d_Sky_eq.b passL) (hr.mono (by decide))) (pv 0) (pe_make T.m_Sky d_Sky_init.fn (hr.mono (by decide)) rfl T.g_Sky d_Sky_init.b .nil passL (pa_cons (pe_lc rfl sc.nd (pi_range1 (by rfl) T.b_range (pa_cons (pe_callB call_len (by rfl) T.b_len PySem.boot_len (pa_cons (pv 2) pa_nil)) pa_nil)) (blkOk_by (N := N__law_rows_right) (sc := defScope S__law_rows_right) (own := [("_law_k", 5)]) (by decide +kernel)) (fun _ _ _ _ _ => (pg_name (i := 5) sc.nd rfl (Or.inl rfl))) (fun _ _ _ _ _ => pts_nil) (fun _ _ _ _ _ => (pe_tup (pa_cons (pe_ix (ix_listK (K := K) rfl) (pv 1) (pv 5) (fun _ _ => rfl)) (pa_cons (pe_make T.m_Cycle d_Cycle_init.fn (hr.mono (by decide)) rfl T.g_Cycle d_Cycle_init.b .nil passL (pa_cons (pe_ix (ix_tupK (K := K) rfl) (pe_ix (ix_listK (K := K) rfl) (pv 2) (pv 5) (fun _ _ => rfl)) pe_int (fun _ _ => rfl)) (pa_cons (pe_ix (ix_tupK (K := K) rfl) (pe_ix (ix_listK (K := K) rfl) (pv 2) (pv 5) (fun _ _ => rfl)) pe_int (fun _ _ => rfl)) pa_nil))) pa_nil))))) pa_nil)) (nomark _))))))), ?_⟩
  obtain ⟨p, ns, ds, ln, lr, xs, rfl, hsky, rfl, hn, rfl, hr_, hx, hok, h8, hpl, h⟩ := h
  have hsky0 := hsky
  obtain ⟨dx, l, rows, hp, hl, hrow⟩ := hsky
  have e1 := hrow.l1
  have e2 := hrow.l2
  have e3 := hx.len
  refine ⟨_, rfl, p, dx, _, l, rows, rfl, hp, rfl, SqL.of hl, fun D hD => ?_⟩
  refine lc_mapL (R := fun i y _ => rows[i]? = some y) (xs := rows) (fun _ _ _ _ _ q => q) hl hD (line400 (by omega)) (fun i x H' hi s k hk => ?_) (fun H1 ys s1 hy hyn hyr => ?_)
  · exact ⟨rfl, _, rfl, hk _ _ Same.rfl' hi⟩
  have ey : ys = rows := List.ext_getElem? fun i => by
    cases q : ys[i]? with
    | none =>
      have := List.getElem?_eq_none_iff.mp q
      rw [List.getElem?_eq_none (by omega)]
    | some y => exact (hyr i y q).symm
  subst ey
  clear hyr
  refine ⟨_, rfl, _, _, rfl, lenL hy, _, rfl, _, _, rfl, lenL (s1 _ _ hr_), rfl, _, rfl, ifNe (fun ne => absurd (by show (ys.length : Int) = (xs.length : Int); omega) ne) (fun _ => ?_)⟩
  refine ⟨_, rfl, p, dx, _, rfl, s1 _ _ hp, _, rfl, p, ns, ds, rfl, hsky0.mono s1, h8, fun l2 H2 s2 _ hl2 => ?_⟩
  have s12 := Same.trans' s1 s2
  refine ⟨_, rfl, _, _, rfl, al_strs hl2 (s12 _ _ hn) (by omega), fun H3 s3 => ⟨true, rfl, iteF ?_⟩⟩
  have s13 := Same.trans' s12 s3
  have hy3 := Same.trans' s2 s3 _ _ hy
  refine ⟨_, rfl, _, _, rfl, lenL (s13 _ _ hr_), _, rfl, by omega, by omega, ?_⟩
  refine for_range (fun i σ H' => ∃ o4 o5 o6 o7, σ = [some (.ref p), some (.ref ln), some (.ref lr), some (.ref D), o4, o5, o6, o7] ∧ Same H H' ∧ H' D = some (.lst ys)) ?_ ?_ ?_
  · exact ⟨_, _, _, _, rfl, s13, hy3⟩
  · rintro i σ H' hi ⟨o4, o5, o6, o7, rfl, sm, hD'⟩
    have hi : i < xs.length := by omega
    have ex : xs[i]? = some (xs[i]'hi) := List.getElem?_eq_getElem _
    have ey : ys[i]? = some (ys[i]'(by omega)) := List.getElem?_eq_getElem _
    obtain ⟨n, d, hni, hdi, t, c, ev, ht, hc⟩ := hrow.at_ i _ ey
    rw [ev] at ey
    obtain ⟨d', hdi', t2, p2, q2, ev2, ht2, fp2, fq2⟩ := hx.at_ i _ ex
    rw [hdi] at hdi'; cases hdi'
    rw [ev2] at ex
    have hcc := hc
    obtain ⟨dc, fa, fs, fpp, hc0, fr1, fs1, pv1⟩ := hc
    have eyn : (List.map V.str ns)[i]? = some (.str n) := by rw [List.getElem?_map, hni]; rfl
    have T1 := sm _ _ ht
    have C1 := sm _ _ hc0
    refine ⟨_, rfl, _, rfl, D, ys, _, _, rfl, rfl, SqL.of hD', at0 ey, _, _, _, _, true, rfl, .ty _, .base (.tup T1), k_tup_tup, true, rfl, iteF ?_⟩
    refine ⟨_, rfl, _, rfl, D, ys, _, _, rfl, rfl, SqL.of hD', at0 ey, _, 2, rfl, len2 T1, rfl, _, rfl, ifNe (fun ne => absurd rfl ne) (fun _ => ?_)⟩
    refine ⟨_, rfl, _, rfl, D, ys, _, _, rfl, rfl, SqL.of hD', at0 ey, t, _, _, _, rfl, rfl, at2_0 T1, at_1, _, _, _, _, true, rfl, .own _, .base (.ins C1 T.c_Cycle T.j_Cycle.cl T.oc_get T.oc_tak T.j_Cycle.hm), k_own, true, rfl, iteF ?_⟩
    refine ⟨_, rfl, _, rfl, D, ys, _, _, rfl, rfl, SqL.of hD', at0 ey, t, _, _, _, rfl, rfl, at2_0 T1, at_1, ?_⟩
    obtain ⟨p2, rfl, hp2⟩ := fp2
    have N1 := sm _ _ hn
    have R1 := sm _ _ hr_
    have T2 := sm _ _ ht2
    have P2 := sm _ _ hp2
    refine ⟨_, rfl, _, rfl, D, ys, _, _, rfl, rfl, SqL.of hD', at0 ey, t, _, _, _, rfl, rfl, at2_0 T1, at_0, _, rfl, c, _, dc, _, _, rfl, C1, T.c_Cycle, T.n_Cycle_rate, rfl, _, rfl, c, _, dc, _, _, rfl, C1, T.c_Cycle, T.n_Cycle_start, rfl, line3b, fun L1 hL1 => ?_⟩
    have k1 := same_new (o := .lst [.str n, fa, fs]) hL1
    refine ⟨_, rfl, _, rfl, ln, _, _, _, rfl, rfl, SqL.of (k1 _ _ N1), at0 eyn, _, rfl, _, rfl, lr, xs, _, _, rfl, rfl, SqL.of (k1 _ _ R1), at0 ex, t2, _, _, _, rfl, rfl, SqT.of (k1 _ _ T2), at_0, _, rfl, _, rfl, lr, xs, _, _, rfl, rfl, SqL.of (k1 _ _ R1), at0 ex, t2, _, _, _, rfl, rfl, SqT.of (k1 _ _ T2), at_1, line3b, fun L2 hL2 => ?_⟩
    have k2 := Same.new (o := .lst [.str n, .ref p2, q2]) k1 hL2
    have sk := Same.trans' sm k2
    refine ⟨_, _, rfl, al_3 (x := d.1) (y := d.2) (same_new hL2 _ _ upd_same) upd_same (fr1.mono sk) ⟨p2, rfl, sk _ _ hp2⟩ (fs1.mono sk) (fq2.mono sk), fun H2 s2 => ⟨true, rfl, iteF ?_⟩⟩
    have kk := Same.trans' k2 s2
    have sm2 := Same.trans' sm kk
    refine ⟨_, rfl, _, rfl, lr, xs, _, _, rfl, rfl, SqL.of (kk _ _ R1), at0 ex, t2, _, _, _, rfl, rfl, SqT.of (kk _ _ T2), at_0, p2, _, _, _, rfl, rfl, sq2 (kk _ _ P2), at_0, rfl, _, rfl, ifNe (fun ne => ?_) (fun e => ?_)⟩
    · have r0 : d.1 ≠ 0 := fun z => ne (by rw [z]; rfl)
      refine ⟨_, rfl, _, rfl, lr, xs, _, _, rfl, rfl, SqL.of (kk _ _ R1), at0 ex, t2, _, _, _, rfl, rfl, SqT.of (kk _ _ T2), at_0, p2, _, _, _, rfl, rfl, sq2 (kk _ _ P2), at_1, _, rfl, _, rfl, lr, xs, _, _, rfl, rfl, SqL.of (kk _ _ R1), at0 ex, t2, _, _, _, rfl, rfl, SqT.of (kk _ _ T2), at_0, p2, _, _, _, rfl, rfl, sq2 (kk _ _ P2), at_0, _, rfl, line2, fun r hr => ?_⟩
      rw [← frO_per r0]
      have k5 := same_new (o := frO (absR (1 / d.1))) hr
      have sm5 := Same.trans' sm2 k5
      have pf : FrV H fpp (absR (1 / d.1)) := by
        rcases pv1 with ⟨z, _⟩ | ⟨_, z⟩
        · exact absurd z r0
        · exact z
      exact ⟨_, rfl, c, _, dc, _, _, rfl, sm5 _ _ hc0, T.c_Cycle, T.n_Cycle_period, rfl, _, rfl, _, _, rfl, al_fr (pf.mono sm5) ⟨r, rfl, upd_same⟩, fun H3 s3 => ⟨true, rfl, iteF ⟨_, _, _, _, rfl, Same.trans' sm5 s3, s3 _ _ (k5 _ _ (kk _ _ hD'))⟩⟩⟩
    · have z : d.1 = 0 := Rat.num_eq_zero.mp e
      have pf : fpp = .non := by
        rcases pv1 with ⟨_, y⟩ | ⟨y, _⟩
        · exact y
        · exact absurd z y
      subst pf
      exact ⟨_, rfl, c, _, dc, _, _, rfl, sm2 _ _ hc0, T.c_Cycle, T.n_Cycle_period, rfl, _, rfl, _, _, rfl, .inl ⟨rfl, rfl⟩, fun H3 s3 => ⟨true, rfl, iteF ⟨_, _, _, _, rfl, Same.trans' sm2 s3, s3 _ _ (kk _ _ hD')⟩⟩⟩
  · rintro σ H' ⟨o4, o5, o6, o7, rfl, sm, hD'⟩
    have R1 := sm _ _ hr_
    have N1 := sm _ _ hn
    refine ⟨_, rfl, _, rfl, _, _, rfl, lenL R1, _, rfl, by omega, by omega, fun D2 hD2 => ?_⟩
    refine lc_mapR (R := fun i y Hx => ∃ n d, ns[i]? = some n ∧ ds[i]? = some d ∧ RowV K Hx y n d) (fun i y Ha Hb s ⟨n, d, a, b, c⟩ => ⟨n, d, a, b, c.monoL s⟩) hD2 (line400 (by omega)) (fun i Hx hi sx k hk => ?_) (fun H5 zs s5 hz hzn hzr => ?_)
    · have hi : i < xs.length := by omega
      have ex : xs[i]? = some (xs[i]'hi) := List.getElem?_eq_getElem _
      obtain ⟨d, hdi, t2, p2, q2, ev2, ht2, fp2, fq2⟩ := hx.at_ i _ ex
      rw [ev2] at ex
      obtain ⟨n, hni⟩ : ∃ n, ns[i]? = some n := ⟨_, List.getElem?_eq_getElem (by omega)⟩
      have eyn : (List.map V.str ns)[i]? = some (.str n) := by rw [List.getElem?_map, hni]; rfl
      have smx := Same.trans' sm sx
      refine ⟨rfl, _, rfl, _, rfl, ln, _, _, _, rfl, rfl, SqL.of (smx _ _ hn), at0 eyn, _, rfl, _, rfl, lr, xs, _, _, rfl, rfl, SqL.of (smx _ _ hr_), at0 ex, t2, _, _, _, rfl, rfl, SqT.of (smx _ _ ht2), at_0, _, rfl, _, rfl, lr, xs, _, _, rfl, rfl, SqL.of (smx _ _ hr_), at0 ex, t2, _, _, _, rfl, rfl, SqT.of (smx _ _ ht2), at_1, ?_⟩
      intro xc dc hxc hdc hne
      have mk := same_made (o := .ins (ga K "Cycle") dc []) (o' := .own xc) hxc hdc
      have pl := hpl d (List.mem_of_getElem? hdi)
      refine ⟨_, _, _, rfl, xc, dc, d, rfl, upd_same, (fp2.mono smx).mono mk, (fq2.mono smx).mono mk, pl.1, pl.2, fun H6 sx6 hc6 => ⟨rfl, line2, fun t ht => ?_⟩⟩
      have md := made hxc hdc sx6
      exact hk _ _ (Same.new md ht) ⟨n, d, hni, hdi, t, xc, rfl, upd_same, hc6.mono (same_new ht)⟩
    · have rv : RowsV K H5 zs ns ds := ⟨by omega, by omega, hzr⟩
      have sm5 := Same.trans' sm s5
      intro x2 dx2 hx2 hd2 hne
      have mk := same_made (o := .ins (ga K "Sky") dx2 []) (o' := .own x2) hx2 hd2
      refine ⟨_, _, rfl, x2, dx2, D2, zs, ns, ds, rfl, upd_same, rfl, mk _ _ hz, by omega, rv.mono mk, hok, fun H6 sx6 hN => ⟨rfl, ?_⟩⟩
      have md := Same.trans' sm5 (made hx2 hd2 sx6)
      obtain ⟨dy, l6, rows6, hp6, hl6, hr6⟩ := id hN.a
      exact ⟨⟨p, x2, dx, dy, _, _, rfl, rfl, md _ _ hp, hp6, ns, ds, hsky0.mono md, hN.a⟩, fun H7 s7 => h H7 (Same.trans' md s7)⟩
end
end Wk
set_option maxHeartbeats 4000000
namespace Wk
open PySem PySem.Spec PyProof.Rows L2
/-! ### defs that make lambdas -/
abbrev cdD (K : PySem.W.Frag) (x : Str) : Addr := He.codeOf K (x, none)
section
variable {P : Program} {w : World} {K : PySem.W.Frag} {mg : Str → Option Value} {base : Heap} {k : Nat} {x : Str} {ps : List Str} {sp : Sp}
variable {nm qual : Str} {pa : Arguments} {bd : List Stmt} {sc : Scope} {dvs : List V} {kws : List (Str × V)} {fd : FuncData} {N : List Str}
theorem okFC (F : FunD K nm qual pa bd sc dvs kws (He.fAd K (x, none)) fd) (g : mg x = some (.ref (ga K x))) (hb : Binds K fd ps []) (S : FnScope N ps sc) (len : ∀ vs H Q E, sp vs H Q E → vs.length = ps.length)
    (hbody : ∀ (A : Around) (outer : List Env) (s : Shared) (H : Hp) (vs : List V) (Q : VK) (E : XK), Room k (A.deeper (envOfC qual sc s.heap.objs.size (ga K x) (.ref (cdD K x)))) → sp vs H Q E →
      ∃ t, PSs (cxOf (L2.CX P w) P w K mg base N qual sc (ga K x) (.ref (cdD K x)) A outer s H E).nox bd t ∧ t { nx := fun _ H' => Q .non H', rt := Q } (start N vs) H) : Ok P w K mg base (k + 1) x ps sp := by
  have hb' := hb
  obtain ⟨oc, od, dV, kV, doc, pm, an, cdv, ct, osl, efd, lk, hcd, _, _⟩ := F.ex
  subst efd
  obtain ⟨c, rfl⟩ := He.codeIn_ref hcd
  have e : cdD K x = c := He.codeOf_eq lk rfl
  rw [e] at hbody
  refine ⟨⟨_, hb', fn_of lk hcd S len fun A outer s H vs Q E hr hsp => ?_⟩, g, F.kp⟩
  obtain ⟨t, h1, h2⟩ := hbody A outer s H vs Q E hr hsp
  exact ⟨t, h1.nox, h2⟩
end
/-- the tables -/
abbrev locQ (d : Str) : Str := d ++ (".<locals>." : Str)
abbrev lamQ (d : Str) : Str := locQ d ++ ("<lambda>" : Str)
def T3 (K : PySem.W.Frag) : List (Addr × Str) := [(tabOfD K "_law_search_right", lamQ "_law_search_right"), (tabOfD K "_law_names_right", lamQ "_law_names_right"), (tabOfD K "law", lamQ "law")]
theorem t3_mem {K : PySem.W.Frag} {d : Str} (hd : d = "_law_search_right" ∨ d = "_law_names_right" ∨ d = "law") : (tabOfD K d, lamQ d) ∈ T3 K := by
  rcases hd with rfl | rfl | rfl
  · exact List.mem_cons_self
  · exact List.mem_cons_of_mem _ List.mem_cons_self
  · exact List.mem_cons_of_mem _ (List.mem_cons_of_mem _ List.mem_cons_self)
theorem t3_one {K : PySem.W.Frag} (h : tabD K = true) {d : Str} (hd : d = "_law_search_right" ∨ d = "_law_names_right" ∨ d = "law") : ∀ p ∈ T3 K, p.1 = tabOfD K d → p.2 = lamQ d := by
  unfold tabD at h
  simp only [Bool.and_eq_true, Bool.not_eq_true', decide_eq_false_iff_not] at h
  obtain ⟨h1, h2, h3⟩ := h
  intro p hp e
  simp only [T3, List.mem_cons, List.not_mem_nil, or_false] at hp
  rcases hd with rfl | rfl | rfl
  · rcases hp with rfl | rfl | rfl
    · exact Eq.refl _
    · exact absurd e.symm h1
    · exact absurd e.symm h2
  · rcases hp with rfl | rfl | rfl
    · exact absurd e h1
    · exact Eq.refl _
    · exact absurd e.symm h3
  · rcases hp with rfl | rfl | rfl
    · exact absurd e h2
    · exact absurd e h3
    · exact Eq.refl _
theorem pe_ans {X : Cx} (T : Tx X.K X.mg) {d : Str} (hd : d = "_law_search_right" ∨ d = "_law_names_right" ∨ d = "law") {k : Nat} {params : Arguments} {body : Expr} {scope : Scope} {t : XK → TE} {p lpos pos : Pos} (hg : Gl X "_law_answer") (TB : LamX.TabB X.base X.mg (cdD X.K d) (tabOfD X.K d))
    (hcode : X.env.code = .ref (cdD X.K d)) (hq : X.env.qual = locQ d) (hr : Room (k + 2) X.A) (L : LamX.LamS X.env.scope scope) (hdef : defaultsOf params X.env = ([], []))
    (hbind : ∀ (q : Str) (cl : List (Str × Addr)) (pm cv ctv : Value), bindArgs (PySem.W.kla_fn "<lambda>" q params body scope cl pm cv ctv) ⟨[], []⟩ = pure [])
    (hbody : ∀ (A : Around) (outer : List Env) (s : Shared) (H : Hp) (E : XK) (f c' : Addr), Room k (A.deeper (LamX.lamEnv X scope s.heap.objs.size f c')) → PE (LamX.lamCx X A outer s H E scope f c') body (t E)) :
    PE X (.Call (.Name "_law_answer" p) [.Lambda params body scope lpos] [] pos) (LamX.tLam (T3 X.K) (TAns X.K) t) := by
  obtain ⟨fd, F⟩ := T.f__law_answer
  have hb : Binds X.K fd ["_law_call"] [] := F.bindsN fun _ _ _ _ _ _ us hl => match us, hl with | [_], _ => rfl
  have kp := F.kp
  obtain ⟨oc, od, dV, kV, doc, pm, an, cdv, ct, osl, efd, lk, hcd, _, _⟩ := F.ex
  subst efd
  exact LamX.pe_lamcall hg T.g__law_answer kp lk hcd hb sc__law_answer rfl (.inl rfl) (ans_gives T) TB hcode (by rw [hq]; exact t3_mem hd) (by rw [hq]; exact t3_one T.td hd) hr L hdef hbind hbody
/-! ### heaps that grow but for the tables -/
section
variable {K : PySem.W.Frag} {H H' : Hp}
theorem FrV.monoE {v : V} {x : Rat} (h : FrV H v x) (s : LamX.ExtN H H') : FrV H' v x := let ⟨a, e, q⟩ := h; ⟨a, e, s a _ q (fun _ z => nomatch z)⟩
theorem FrX.monoE {xs : List V} {rs : List Rat} (h : FrX H xs rs) (s : LamX.ExtN H H') : FrX H' xs rs := ⟨h.len, fun i x e => let ⟨r, a, b⟩ := h.at_ i x e; ⟨r, a, b.monoE s⟩⟩
theorem PairV.monoE {v : V} {d : Rw} (h : PairV H v d) (s : LamX.ExtN H H') : PairV H' v d := let ⟨t, p, q, e, a, b, c⟩ := h; ⟨t, p, q, e, s _ _ a (fun _ z => nomatch z), b.monoE s, c.monoE s⟩
theorem RowsF.monoE {xs : List V} {ds : List Rw} (h : RowsF H xs ds) (s : LamX.ExtN H H') : RowsF H' xs ds := ⟨h.len, fun i x e => let ⟨d, a, b⟩ := h.at_ i x e; ⟨d, a, b.monoE s⟩⟩
theorem PerV.monoE {v : V} {r : Rat} (h : PerV H v r) (s : LamX.ExtN H H') : PerV H' v r := h.imp id fun ⟨a, b⟩ => ⟨a, b.monoE s⟩
theorem CycA.monoE {p : Addr} {d : Rw} (h : CycA K H p d) (s : LamX.ExtN H H') : CycA K H' p d := let ⟨dx, a, b, c, e, x, y, z⟩ := h; ⟨dx, a, b, c, s p _ e (fun _ q => nomatch q), x.monoE s, y.monoE s, z.monoE s⟩
theorem CycX.monoE {xs : List V} {ds : List Rw} (h : CycX K H xs ds) (s : LamX.ExtN H H') : CycX K H' xs ds := ⟨h.len, fun i x e => let ⟨d, a, p, ep, b⟩ := h.at_ i x e; ⟨d, a, p, ep, b.monoE s⟩⟩
theorem RowV.monoE {v : V} {n : Str} {d : Rw} (h : RowV K H v n d) (s : LamX.ExtN H H') : RowV K H' v n d := let ⟨t, c, e, x, y⟩ := h; ⟨t, c, e, s t _ x (fun _ z => nomatch z), y.monoE s⟩
theorem RowsV.monoE {rows : List V} {ns : List Str} {ds : List Rw} (h : RowsV K H rows ns ds) (s : LamX.ExtN H H') : RowsV K H' rows ns ds := ⟨h.l1, h.l2, fun i v e => let ⟨n, d, a, b, c⟩ := h.at_ i v e; ⟨n, d, a, b, c.monoE s⟩⟩
theorem SkyA.monoE {p : Addr} {ns : List Str} {ds : List Rw} (h : SkyA K H p ns ds) (s : LamX.ExtN H H') : SkyA K H' p ns ds := let ⟨dx, l, rows, a, b, c⟩ := h; ⟨dx, l, rows, s _ _ a (fun _ z => nomatch z), s _ _ b (fun _ z => nomatch z), c.monoE s⟩
theorem SpanV.monoE {v : V} {a b : Rat} (h : SpanV K H v a b) (s : LamX.ExtN H H') : SpanV K H' v a b := let ⟨p, dx, fa, fb, fl, e, hp, x, y⟩ := h; ⟨p, dx, fa, fb, fl, e, s p _ hp (fun _ z => nomatch z), x.monoE s, y.monoE s⟩
theorem RuleV.monoE {v : V} {R : Rule} (h : RuleV H v R) (s : LamX.ExtN H H') : RuleV H' v R := by
  rcases R with _ | ⟨f, _ | I⟩
  · exact h
  · obtain ⟨t, p, e, a, b⟩ := h; exact ⟨t, p, e, s _ _ a (fun _ z => nomatch z), b.monoE s⟩
  · obtain ⟨t, p, q, e, a, b, c⟩ := h; exact ⟨t, p, q, e, s _ _ a (fun _ z => nomatch z), b.monoE s, c.monoE s⟩
theorem StoreOk.monoE {st : Addr} {c : Nat} (h : StoreOk H st c) (s : LamX.ExtN H H') : StoreOk H' st c := by
  obtain ⟨cl, ns, p, b, n, s', f, m, h1, h2, r⟩ := h.ex
  exact ⟨cl, ns, p, b, n, s', f, m, s _ _ h1 (fun _ z => nomatch z), s _ _ h2 (fun _ z => nomatch z), r⟩
theorem ResT.monoE {t : Addr} {r : Res} (h : ResT H t r) (s : LamX.ExtN H H') : ResT H' t r := by
  cases r with
  | told l => obtain ⟨p, xs, a, b, c⟩ := h; exact ⟨p, xs, s _ _ a (fun _ z => nomatch z), s _ _ b (fun _ z => nomatch z), c.monoE s⟩
  | endless => exact s _ _ h (fun _ z => nomatch z)
  | many => exact s _ _ h (fun _ z => nomatch z)
theorem ResT.mono {t : Addr} {r : Res} (h : ResT H t r) (s : Same H H') : ResT H' t r := h.monoE (LamX.ExtN.of s)
end
theorem un65 {k : Nat} {A : Around} (r : Room k A) : A.units + 65 < cLine := by have := r.un; omega
theorem extS {H H' : Hp} (s : Same H H') : LamX.ExtN H H' := LamX.ExtN.of s
end Wk
set_option maxHeartbeats 4000000
namespace Wk
open PySem PySem.Spec PyProof.Rows L2
/-! ### for the search -/
theorem visits_any {d : Rw} {a b : Rat} (h : d ≠ (0, 0)) (h0 : 0 ≤ d.2) (h1 : d.2 < 1) (hab : a ≤ b) (hs : absR d.1 * (b - a) ≤ 24) : ∃ l, visitsRes d a b = .told l ∧ Asc l ∧ (∀ m, m ∈ l ↔ (a ≤ m ∧ m ≤ b) ∧ At0 d m) ∧ l.length ≤ 400 := by
  by_cases r : d.1 = 0
  · have s0 : d.2 ≠ 0 := fun z => h (Prod.ext r z)
    refine ⟨[], ?_, .nil, fun m => ?_, by simp⟩
    · unfold visitsRes
      rw [if_pos r, if_neg s0]
    · constructor
      · intro z; cases z
      · rintro ⟨_, z⟩
        exfalso
        unfold At0 at z
        rw [r] at z
        have e : d.2 + 0 * m = d.2 := by grind
        rw [e] at z
        exact s0 (whole_place h0 h1 z)
  · obtain ⟨l, e, h2, h3⟩ := visits_told r hab hs
    refine ⟨l, e, h2, h3, ?_⟩
    unfold visitsRes at e
    rw [if_neg r] at e
    unfold stepsRes at e
    split at e
    · cases e
    · injection e with e
      rw [← e, listK_len]
      omega
def dtP (d : Rw) : PyData := .tuple [dtF d.1, dtF d.2]
theorem dp_pair {K : PySem.W.Frag} {H : Hp} {v : V} {d : Rw} (h : PairV H v d) : Dp K H v (dtP d) := by
  obtain ⟨t, p, q, rfl, ht, fp, fq⟩ := h
  exact .tup (SqT.of ht) (.cons (dp_fr fp) (.cons (dp_fr fq) .nil))
theorem shp_pair (d : Rw) : SeqAt.shaped (dtP d) = true := rfl
theorem eqv_pair (d e : Rw) : PyData.eqv (dtP d) (dtP e) = decide (d = e) := by
  have h : PyData.eqv (dtP d) (dtP e) = (PyData.eqv (dtF d.1) (dtF e.1) && PyData.eqv (dtF d.2) (dtF e.2)) := by
    simp [dtP, PyData.eqv, PyData.eqvAll]
  rw [h, eqv_fr, eqv_fr]
  by_cases c : d = e
  · subst c; simp
  · rw [decide_eq_false c]
    by_cases c1 : d.1 = e.1
    · have : ¬ d.2 = e.2 := fun z => c (Prod.ext c1 z)
      simp [this]
    · simp [c1]
theorem dps_fr {K : PySem.W.Frag} {H : Hp} : ∀ {xs : List V} {rs : List Rat}, FrX H xs rs → DpAll K H xs (rs.map dtF)
  | [], [], _ => .nil
  | x :: xs, r :: rs, h => by
    obtain ⟨r', e, f⟩ := h.at_ 0 x rfl
    cases e
    exact .cons (dp_fr f) (dps_fr ⟨by have := h.len; simpa using this, fun i y hy => h.at_ (i + 1) y hy⟩)
  | [], r :: rs, h => by have := h.len; simp at this
  | x :: xs, [], h => by have := h.len; simp at this
theorem lay_frs : ∀ rs : List Rat, PyData.canLayAll0 (rs.map dtF) = true ∧ PyData.depthAll (rs.map dtF) ≤ 1
  | [] => ⟨by simp [PyData.canLayAll0], by simp [PyData.depthAll]⟩
  | r :: rs => by
    obtain ⟨h1, h2⟩ := lay_frs rs
    have c : PyData.canLay0 (dtF r) = true := rfl
    have e : PyData.depth (dtF r) = 1 := rfl
    refine ⟨by simp [PyData.canLayAll0, h1, c], ?_⟩
    show max (PyData.depth (dtF r)) (PyData.depthAll (rs.map dtF)) ≤ 1
    omega
theorem shp_frs (rs : List Rat) : SeqAt.shaped (.list (rs.map dtF)) = true := by
  obtain ⟨h1, h2⟩ := lay_frs rs
  have d : PyData.depth (.list (rs.map dtF)) = PyData.depthAll (rs.map dtF) + 1 := by simp [PyData.depth]
  unfold SeqAt.shaped
  rw [Bool.and_eq_true]
  exact ⟨by simpa [PyData.canLay0] using h1, decide_eq_true (by omega)⟩
theorem ifNeS {x : Str} {A B : Prop} (h : B) : if (!decide (V.str x = V.str x)) = true then A else B := by simpa using h
theorem any_fr (rs : List Rat) (r : Rat) : ((rs.map dtF).any fun z => PyData.eqv z (dtF r)) = isIn rs r := by
  rw [List.any_map]
  unfold isIn
  by_cases h : r ∈ rs
  · rw [decide_eq_true h, List.any_eq_true]
    exact ⟨r, h, by show PyData.eqv (dtF r) (dtF r) = true; rw [eqv_fr]; simp⟩
  · rw [decide_eq_false h, List.any_eq_false]
    intro y hy z
    have z : PyData.eqv (dtF y) (dtF r) = true := z
    rw [eqv_fr] at z
    have := of_decide_eq_true z
    subst this
    exact h hy
theorem al_told {K : PySem.W.Frag} {H : Hp} {p q p1 q1 : Addr} {xs ys : List V} {l : List Rat} (hp : H p = some (.tup [.str "told", .ref p1])) (hq : H q = some (.tup [.str "told", .ref q1])) (hp1 : H p1 = some (.lst xs)) (hq1 : H q1 = some (.lst ys)) (fx : FrX H xs l) (fy : FrX H ys l) (hl : l.length ≤ 1000) : Al K H 4 (.ref p) (.ref q) := by
  refine .inr (.inr (.inr (.inr ⟨p, q, _, _, rfl, rfl, hp, hq, rfl, by simp, fun i u v hu hv => ?_⟩)))
  match i, hu, hv with
  | 0, hu, hv => cases hu; cases hv; exact .inr (.inr (.inl ⟨_, rfl, rfl⟩))
  | 1, hu, hv =>
    cases hu; cases hv
    refine .inr (.inr (.inr (.inl ⟨p1, q1, xs, ys, rfl, rfl, hp1, hq1, by rw [fx.len, fy.len], by rw [fy.len]; exact hl, fun j x y hx hy => ?_⟩)))
    obtain ⟨r, hr, f1⟩ := fx.at_ j x hx
    obtain ⟨r', hr', f2⟩ := fy.at_ j y hy
    rw [hr] at hr'; cases hr'
    exact al_fr (n := 0) f1 f2
theorem lc_filt {K : PySem.W.Frag} {a D : Addr} {xs : List V} {rs : List Rat} {f : Rat → Bool} {tt : TT} {σ : L2.St} {H1 : Hp} {Qd : Hp → Prop} (hq : H1 a = some (.lst xs)) (hD : H1 D = none) (hz : xs.length ≤ 1000) (hF : FrX H1 xs rs) (h9 : σ.length = 9)
    (htt : ∀ x r H (k : Bool → Hp → Prop), FrV H x r → Same H1 H → k (f r) H → tt ((wipe σ [8]).set 8 (some x)) H k) (hd : ∀ H acc, Same H1 H → H D = some (.lst acc) → FrX H acc (rs.filter f) → Qd H) :
    ∃ W : Nat → Nat → Hp → Prop, (∃ m, W 0 m (upd H1 D (.lst []))) ∧ ∀ i m H, W i m H →
      ((Itl K a).stop i H ∧ Qd H) ∨ ((Itl K a).go i H ∧ ∃ Nx : Hp → Prop, (∀ H', Nx H' → ∃ m', m' < m ∧ W (i + 1) m' H') ∧ ∀ x H', (Itl K a).yld i H x H' → gName 8 x (wipe σ [8]) H' fun σ2 H2 => wipe σ2 [8] = wipe σ [8] ∧ tt σ2 H2 fun b H3 =>
        if b = true then tVar 8 σ2 H3 fun y H4 => ∃ acc, H4 D = some (.lst acc) ∧ acc.length < sizeLine ∧ Nx (upd H4 D (.lst (acc ++ [y]))) else Nx H3) := by
  refine lc_list (xs := xs) (fun i H => Same H1 H ∧ ∃ acc, H D = some (.lst acc) ∧ FrX H acc ((rs.take i).filter f) ∧ acc.length ≤ i) ?_ (fun i H _ p => SqL.of (p.1 _ _ hq)) (fun i x H hx p => ?_) (fun H p => ?_)
  · exact ⟨same_new hD, [], upd_same, by rw [List.take_zero]; exact FrX.nil, Nat.le_refl _⟩
  · obtain ⟨s, acc, hacc, hfr, hle⟩ := p
    obtain ⟨r, hr, fr_⟩ := hF.at_ i x hx
    have il := (List.getElem?_eq_some_iff.mp hx).1
    refine ⟨by simp [wipe, List.set_set], htt x r H _ (fr_.mono s) s ?_⟩
    have ef : (rs.take (i + 1)).filter f = (rs.take i).filter f ++ (if f r = true then [r] else []) := by
      rw [take_snoc hr, List.filter_append]
      cases hf : f r <;> simp [hf]
    cases hf : f r with
    | false =>
      rw [hf] at ef
      refine iteF ⟨s, acc, hacc, ?_, by omega⟩
      rw [ef]
      simpa using hfr
    | true =>
      rw [hf] at ef
      refine iteT ⟨x, ?_, acc, hacc, Nat.lt_of_le_of_lt (show acc.length ≤ 1000 by omega) (by decide), Same.own hD s, acc ++ [x], upd_same, ?_, by simp; omega⟩
      · rw [List.getElem?_set_self (by simp [wipe, h9])]
      · rw [ef, if_pos rfl]
        exact (hfr.upd hacc).snoc ((fr_.mono s).monoL (SameL.upd hacc))
  · obtain ⟨s, acc, hacc, hfr, _⟩ := p
    have := hF.len
    rw [List.take_of_length_le (by omega)] at hfr
    exact hd H acc s hacc hfr
end Wk
set_option maxHeartbeats 4000000
namespace Wk
open PySem PySem.Spec PyProof.Rows L2
section
variable {P : Program} {w : World} {K : PySem.W.Frag} {mg : Str → Option Value} {base : Heap}
/-! ### the search -/
def CommonV (H : Hp) (v : V) : Option (List Rat) → Prop
  | none => v = .non
  | some l => ∃ p xs, v = .ref p ∧ H p = some (.lst xs) ∧ FrX H xs l ∧ l.length ≤ 400
def spSearch (K : PySem.W.Frag) : Sp := sp4 fun c s e d H Q _ => ∃ lc xc ls xs ds t R a b, c = .ref lc ∧ H lc = some (.lst xc) ∧ CycX K H xc ds ∧ s = .ref ls ∧ H ls = some (.lst xs) ∧ RowsF H xs ds ∧ PairV H e (a, b) ∧ d = .ref t ∧ ResT H t (dueRes R a b) ∧ RuleFor (Md ds) R ∧ SpanN 300 a b ∧
  ds.length ≤ 6 ∧ (∀ d ∈ ds, Sz 250 d.1 ∧ Sz 250 d.2 ∧ 0 ≤ d.2 ∧ d.2 < 1 ∧ absR d.1 * (b - a) ≤ 24) ∧ LamX.Tabs (T3 K) H ∧ ∀ H', LamX.ExtN H H' → LamX.Tabs (T3 K) H' → Q (.bl true) H'
abbrev N__law_search_right : List Str := ["_law_cycles", "_law_seen_here", "_law_ends", "_law_due", "_law_span", "_law_common", "_law_k", "_law_told", "_law_moment_here"]
theorem sc__law_search_right : FnScope N__law_search_right ["_law_cycles", "_law_seen_here", "_law_ends", "_law_due"] (defScope S__law_search_right) := ⟨rfl, rfl, rfl, by decide +kernel, rfl, by decide +kernel, by decide +kernel⟩
theorem ok__law_search_right (T : Tx K mg) (d__law_alike : Ok P w K mg base 4 "_law_alike" ["_law_told", "_law_due"] (spAlike K 4)) (d_Cycle_visits : OkM P w K mg base 7 "Cycle" "visits" ["self", "place", "span"] (spVisits K)) (d_Span_init : OkM P w K mg base 5 "Span" "__init__" ["self", "first", "last"] (spSpan K)) (TB : LamX.TabB base mg (cdD K "_law_search_right") (tabOfD K "_law_search_right")) : Ok P w K mg base 10 "_law_search_right" ["_law_cycles", "_law_seen_here", "_law_ends", "_law_due"] (spSearch K) := by
  obtain ⟨fd, F⟩ := T.f__law_search_right
  have sc := sc__law_search_right
  refine okFC (F := F) T.g__law_search_right (F.bindsN fun _ _ _ _ _ _ us hl => match us, hl with | [_, _, _, _], _ => rfl) sc sp4_len (fun A outer s H vs Q E hr h => ?_)
  obtain ⟨u, v, z, z2, rfl, h⟩ := h
  refine ⟨_, (pss_cons (ps_set (i := 4) sc.nd rfl (Or.inr rfl) (pe_make T.m_Span d_Span_init.fn (hr.mono (by decide)) rfl T.g_Span d_Span_init.b .nil passL (pa_cons (pe_ix ix_tup (pv 2) pe_int (fun _ _ => rfl)) (pa_cons (pe_ix ix_tup (pv 2) pe_int (fun _ _ => rfl)) pa_nil))))
      (pss_cons (ps_set (i := 5) sc.nd rfl (Or.inl rfl) pe_non)
      (pss_cons (ps_for PassesOwn.never rfl (pi_range1 (by rfl) T.b_range (pa_cons (pe_callB call_len (by rfl) T.b_len PySem.boot_len (pa_cons (pv 1) pa_nil)) pa_nil)) (pg_name (i := 6) sc.nd rfl (Or.inr rfl)) (pss_cons (ps_set (i := 7) sc.nd rfl (Or.inr rfl) (pe_ans (k := 7) T (.inl rfl) rfl TB rfl rfl (hr.mono (by decide)) (LamX.lamS_by (sc := defScope S__law_search_right) (by decide +kernel)) rfl (fun _ _ _ _ _ => rfl) (fun A outer s H E f c' hrL => (pe_meth (pe_ix (ix_listK (K := K) rfl) (pv 0) (pv 6) (fun _ _ => rfl)) T.c_Cycle T.t_Cycle_visits d_Cycle_visits.fn (hrL.mono (by decide)) d_Cycle_visits.b .nil (passes_call (takes_of rfl rfl rfl rfl) fun _ _ _ _ z => z) (pa_cons (pe_tup (pa_cons pe_int (pa_cons pe_int pa_nil))) (pa_cons (pv 4) pa_nil))))))
      (pss_cons (ps_if (pt_cmpR (op_eqD hr.units) (pe_ix ix_list (pv 1) (pv 6) (fun _ _ => rfl)) (pe_tup (pa_cons (pe_tup (pa_cons pe_int (pa_cons pe_int pa_nil))) (pa_cons (pe_tup (pa_cons pe_int (pa_cons pe_int pa_nil))) pa_nil))) (nomark _)) (pss_cons (ps_if (pt_cmpR (op_neD hr.units) (pv 7) (pe_tup (pa_cons pe_str (pa_cons pe_non pa_nil))) (nomark _)) (pss_one (ps_ret pe_bl)) pss_nil)
      (pss_one ps_continue)) pss_nil)
      (pss_cons (ps_if (PW.pt (pw_or (pt_cmpR op_ne (pe_ix ix_tup (pv 7) pe_int (fun _ _ => rfl)) pe_str (nomark _)) (pw_or1 (pt_not (pt_val (pe_callB call_isi (by rfl) T.b_isinstance (by decide +kernel) (pa_cons (pe_ix ix_tup (pv 7) pe_int (fun _ _ => rfl)) (pa_cons (pe_bltn (v := .ty "list") rfl T.b_list (by decide +kernel) rfl) pa_nil)))))))) (pss_one (ps_ret pe_bl)) pss_nil)
      (pss_one (ps_setLc (i := 5) rfl sc.nd rfl rfl (sw_true rfl rfl rfl (by decide +kernel)) (pi_list (pe_ifExp (pt_cmpR op_isN (pv 5) pe_non (nomark _)) (pe_ix ix_tup (pv 7) pe_int (fun _ _ => rfl)) (pv 5))) (blkOk_by (N := N__law_search_right) (sc := defScope S__law_search_right) (own := [("_law_moment_here", 8)]) (by decide +kernel)) (fun _ _ _ _ _ => (pg_name (i := 8) sc.nd rfl (Or.inl rfl))) (fun _ _ _ _ _ => (pts_one (pt_cmpR (op_inDK (K := K) rfl (un65 hr)) (pv 8) (pe_ix (ix_tupK (K := K) rfl) (pv 7) pe_int (fun _ _ => rfl)) rfl))) (fun _ _ _ _ _ => (pv 8))))))))
      (pss_cons (ps_if (pt_cmpR op_isN (pv 5) pe_non (nomark _)) (pss_one (ps_ret (pe_cmpR (op_eqD hr.units) (pv 3) (pe_tup (pa_cons pe_str (pa_cons pe_non pa_nil))) (nomark _)))) pss_nil)
      (pss_one (ps_ret (pe_f d__law_alike (hr.mono (by decide)) rfl passL (pa_cons (pe_tup (pa_cons pe_str (pa_cons (pv 5) pa_nil))) (pa_cons (pv 3) pa_nil))))))))), ?_⟩
  obtain ⟨lc, xc, ls, xs, ds, t, R, a, b, rfl, hlc, hcx, rfl, hls, hx, he, rfl, hdue, hR, hab, d6, hd, hT, h⟩ := h
  have xcl := hcx.len
  have xl := hx.len
  obtain ⟨te, pa, pb, rfl, hte, fa, fb⟩ := he
  obtain ⟨ab, sa, sb⟩ := hab
  refine ⟨_, rfl, te, _, _, _, rfl, rfl, SqT.of hte, at_0, _, rfl, te, _, _, _, rfl, rfl, SqT.of hte, at_1, ?_⟩
  intro xs_ dxs hxs hdxs hne
  have mk := same_made (o := .ins (ga K "Span") dxs []) (o' := .own xs_) hxs hdxs
  refine ⟨_, _, _, rfl, xs_, dxs, a, b, rfl, upd_same, fa.mono mk, fb.mono mk, sa.mono (by decide), sb.mono (by decide), ab, fun H1 sx hsp => ⟨rfl, ?_⟩⟩
  have s1 : Same H H1 := made hxs hdxs sx
  refine ⟨_, rfl, _, _, rfl, lenL (s1 _ _ hls), _, rfl, by omega, by omega, ?_⟩
  refine for_range (fun i σ H' => ∃ (cv : V) (co : Option (List Rat)) (o6 o7 : Option V), σ = [some (.ref lc), some (.ref ls), some (.ref te), some (.ref t), some (.ref xs_), some cv, o6, o7, none] ∧ LamX.ExtN H H' ∧ LamX.Tabs (T3 K) H' ∧ SpanV K H' (.ref xs_) a b ∧ CommonV H' cv co ∧ Common (ds.take i) a b co) ?_ ?_ ?_
  · exact ⟨.non, none, _, _, rfl, extS s1, hT.ext s1, hsp, rfl, common_nil a b⟩
  · rintro i σ H2 hi ⟨cv, co, o6, o7, rfl, e2, T2, sp2, hcv, hC⟩
    have hi : i < xs.length := by omega
    have ex : xs[i]? = some (xs[i]'hi) := List.getElem?_eq_getElem _
    have exc : xc[i]? = some (xc[i]'(by omega)) := List.getElem?_eq_getElem _
    obtain ⟨d, hdi, hpv⟩ := hx.at_ i _ ex
    obtain ⟨d', hdi', c, evc, hcy⟩ := hcx.at_ i _ exc
    rw [hdi] at hdi'; cases hdi'
    rw [evc] at exc
    obtain ⟨b1, b2, p0, p1, p24⟩ := hd d (List.mem_of_getElem? hdi)
    have tk := take_snoc hdi
    try dsimp only
    refine seq_intro (fun σ' H3 => ∃ tv, σ' = [some (.ref lc), some (.ref ls), some (.ref te), some (.ref t), some (.ref xs_), some cv, some (.int (0 + (i : Int))), some (.ref tv), none] ∧ LamX.ExtN H2 H3 ∧ LamX.Tabs (T3 K) H3 ∧
      ((d = (0, 0) ∧ H3 tv = some (.tup [.str "Endless", .non])) ∨ (d ≠ (0, 0) ∧ ∃ p ys l, H3 tv = some (.tup [.str "told", .ref p]) ∧ H3 p = some (.lst ys) ∧ FrX H3 ys l ∧ Asc l ∧ (∀ m, m ∈ l ↔ (a ≤ m ∧ m ≤ b) ∧ At0 d m) ∧ l.length ≤ 400))) (fun Rk hRk => ?_) ?_
    · refine ⟨T2, fun H3 e3 T3' => ?_⟩
      have e03 := e2.trans e3
      have hlc3 := e03 _ _ hlc (fun _ z => nomatch z)
      have hcy3 := hcy.monoE e03
      obtain ⟨dc, f1, f2, f3, hc0, _⟩ := id hcy3
      refine ⟨_, rfl, _, rfl, lc, xc, _, _, rfl, rfl, SqL.of hlc3, at0 exc, c, dc, _, rfl, hc0, rfl, line2, fun q0 hq0 => ?_⟩
      have n0 := same_new (o := frO 0) hq0
      refine ⟨_, rfl, _, _, _, rfl, c, d, a, b, rfl, hcy3.mono n0, ⟨q0, rfl, upd_same⟩, (sp2.monoE e3).mono n0, b1, b2, sa.mono (by decide), sb.mono (by decide), ?_⟩
      by_cases d0 : d = (0, 0)
      · have ev : visitsRes d a b = .endless := by
          subst d0
          unfold visitsRes
          rw [if_pos rfl, if_pos rfl]
        rw [ev]
        intro H4 s4
        refine .inr ⟨rfl, rfl, fun t' H5 s5 ht' => ?_⟩
        have all := Same.trans' n0 (Same.trans' s4 s5)
        exact hRk _ _ ⟨t', rfl, e3.trans (extS all), T3'.ext all, .inl ⟨d0, ht'⟩⟩
      · obtain ⟨l, ev, hasc, hmem, h400⟩ := visits_any d0 p0 p1 ab p24
        rw [ev]
        intro p ys H4 s4 hp hF
        refine ⟨line2, fun q hq => ?_⟩
        have n5 := same_new (o := .tup [.str "told", .ref p]) hq
        have all := Same.trans' n0 (Same.trans' s4 n5)
        exact hRk _ _ ⟨q, rfl, e3.trans (extS all), T3'.ext all, .inr ⟨d0, p, ys, l, upd_same, n5 _ _ hp, hF.mono n5, hasc, hmem, h400⟩⟩
    rintro σ' H3 ⟨tv, rfl, e3, T3', hcase⟩
    have e03 := e2.trans e3
    have hls3 := e03 _ _ hls (fun _ z => nomatch z)
    have hpv3 := hpv.monoE e03
    refine ⟨_, rfl, _, rfl, ls, xs, _, _, rfl, rfl, SqL.of hls3, at0 ex, line2, fun q1 h1 => ⟨line2, fun q2 h2 => ⟨line2, fun q3 h3 => ?_⟩⟩⟩
    have m1 := same_new (o := frO 0) h1
    have k2 := same_new (o := frO 0) h2
    have k3 := same_new (o := .tup [.ref q1, .ref q2]) h3
    have m3 := Same.trans' m1 (Same.trans' k2 k3)
    refine ⟨dtP d, dtP (0, 0), dp_pair (hpv3.mono m3), dp_pair ⟨q3, _, _, rfl, upd_same, FrV.mono ⟨q1, rfl, upd_same⟩ (Same.trans' k2 k3), FrV.mono ⟨q2, rfl, upd_same⟩ k3⟩, shp_pair _, shp_pair _, ?_⟩
    rw [eqv_pair]
    have E3 := e3.trans (extS m3)
    have T3m := T3'.ext m3
    have sp3' := sp2.monoE E3
    rcases hcase with ⟨d0, htv⟩ | ⟨d0, p, ys, l, htv, hp, hF, hasc, hmem, h400⟩
    · rw [decide_eq_true d0]
      refine ⟨true, rfl, iteT ?_⟩
      have htv3 := m3 _ _ htv
      refine ⟨_, rfl, line2, fun q4 h4 => ?_⟩
      have k4 := same_new (o := .tup [.str "Endless", .non]) h4
      refine ⟨.tuple [.str "Endless", .none], .tuple [.str "Endless", .none], .tup (SqT.of (k4 _ _ htv3)) (.cons (.str _) (.cons .non .nil)), .tup (SqT.of upd_same) (.cons (.str _) (.cons .non .nil)), by decide +kernel, by decide +kernel, ?_⟩
      have ee : PyData.eqv (.tuple [.str "Endless", .none]) (.tuple [.str "Endless", .none]) = true := by decide +kernel
      rw [ee]
      refine ⟨false, rfl, iteF ?_⟩
      refine ⟨cv, co, _, _, rfl, e2.trans (E3.trans (extS k4)), T3m.ext k4, sp3'.mono k4, ?_, ?_⟩
      · cases co with
        | none => exact hcv
        | some l0 =>
          obtain ⟨pc, yc, ec, hpc, hfc, hc4⟩ := hcv
          have ex4 := E3.trans (extS k4)
          exact ⟨pc, yc, ec, ex4 _ _ hpc (fun _ z => nomatch z), hfc.monoE ex4, hc4⟩
      · rw [tk, d0]; exact common_skip hC
    · rw [decide_eq_false d0]
      refine ⟨false, rfl, iteF ?_⟩
      have htv3 := m3 _ _ htv
      have hp3 := m3 _ _ hp
      have hF3 := hF.mono m3
      refine ⟨_, rfl, tv, _, _, _, rfl, rfl, SqT.of htv3, at_0, rfl, _, rfl, ifNeS ?_⟩
      refine ⟨_, rfl, tv, _, _, _, rfl, rfl, SqT.of htv3, at_1, _, _, _, _, true, rfl, .ty _, .base (.lst hp3), k_lst_lst, true, rfl, iteF ?_⟩
      have key : ∀ (rs : List Rat) (D : Addr) (HD : Hp) (acc : List V), Same (upd (upd (upd H3 q1 (frO 0)) q2 (frO 0)) q3 (.tup [.ref q1, .ref q2])) HD → HD D = some (.lst acc) → FrX HD acc (rs.filter (isIn l)) → rs.length ≤ 400 → CommonV HD (.ref D) (some (rs.filter (isIn l))) := fun rs D HD acc _ hD hF h4 =>
        ⟨D, acc, rfl, hD, hF, Nat.le_trans (List.length_filter_le ..) h4⟩
      have eD : ∀ {HD : Hp}, Same (upd (upd (upd H3 q1 (frO 0)) q2 (frO 0)) q3 (.tup [.ref q1, .ref q2])) HD → LamX.ExtN H HD ∧ LamX.Tabs (T3 K) HD ∧ SpanV K HD (.ref xs_) a b := fun s => ⟨e2.trans (E3.trans (extS s)), T3m.ext s, sp3'.mono s⟩
      cases co with
      | none =>
        have : cv = .non := hcv
        subst this
        refine ⟨_, rfl, rfl, _, rfl, ifD (fun _ => ?_) (fun n => absurd rfl n)⟩
        refine ⟨_, rfl, tv, _, _, _, rfl, rfl, SqT.of htv3, at_1, p, rfl, ⟨_, SqL.of hp3⟩, fun D hD => ?_⟩
        refine lc_filt (rs := l) (f := isIn l) hp3 hD (by rw [hF3.len]; omega) hF3 rfl (fun x r Hx k fx sx hk => ?_) (fun HD acc sD hDD hFD => ?_)
        · refine ⟨_, rfl, _, rfl, tv, _, _, _, rfl, rfl, SqT.of (sx _ _ htv3), at_1, dtF r, l.map dtF, dp_fr fx, .lst (SqL.of (sx _ _ hp3)) (dps_fr (hF3.mono sx)), shp_fr r, shp_frs l, ?_⟩
          rw [any_fr]
          exact ⟨_, rfl, hk⟩
        · obtain ⟨g1, g2, g3⟩ := eD sD
          refine ⟨.ref D, some (l.filter (isIn l)), _, _, rfl, g1, g2, g3, key l D HD acc sD hDD hFD h400, ?_⟩
          rw [tk]
          exact common_next hC d0 hasc hmem
      | some c0 =>
        obtain ⟨pc, yc, rfl, hpc, hfc, hc4⟩ := hcv
        have hpc3 := E3 _ _ hpc (fun _ z => nomatch z)
        have hfc3 := hfc.monoE E3
        refine ⟨_, rfl, rfl, _, rfl, ifD (fun e => by cases e) (fun _ => ?_)⟩
        refine ⟨_, rfl, pc, rfl, ⟨_, SqL.of hpc3⟩, fun D hD => ?_⟩
        refine lc_filt (rs := c0) (f := isIn l) hpc3 hD (by rw [hfc3.len]; omega) hfc3 rfl (fun x r Hx k fx sx hk => ?_) (fun HD acc sD hDD hFD => ?_)
        · refine ⟨_, rfl, _, rfl, tv, _, _, _, rfl, rfl, SqT.of (sx _ _ htv3), at_1, dtF r, l.map dtF, dp_fr fx, .lst (SqL.of (sx _ _ hp3)) (dps_fr (hF3.mono sx)), shp_fr r, shp_frs l, ?_⟩
          rw [any_fr]
          exact ⟨_, rfl, hk⟩
        · obtain ⟨g1, g2, g3⟩ := eD sD
          refine ⟨.ref D, some (c0.filter (isIn l)), _, _, rfl, g1, g2, g3, key c0 D HD acc sD hDD hFD hc4, ?_⟩
          rw [tk]
          exact common_next hC d0 hasc hmem
  · rintro σ H2 ⟨cv, co, o6, o7, rfl, e2, T2, sp2, hcv, hC⟩
    rw [List.take_of_length_le (by omega)] at hC
    have due := common_due hC hR ab (fun d hd' => ⟨(hd d hd').2.2.1, (hd d hd').2.2.2.1⟩) (fun d hd' => (hd d hd').2.2.2.2)
    rw [due] at hdue
    have hdue2 := hdue.monoE e2
    cases co with
    | none =>
      have : cv = .non := hcv
      subst this
      have ht : H2 t = some (.tup [.str "Endless", .non]) := hdue2
      refine ⟨_, rfl, rfl, _, rfl, ifD (fun _ => ?_) (fun n => absurd rfl n)⟩
      refine ⟨_, rfl, line2, fun q4 h4 => ?_⟩
      have k4 := same_new (o := .tup [.str "Endless", .non]) h4
      refine ⟨.tuple [.str "Endless", .none], .tuple [.str "Endless", .none], .tup (SqT.of (k4 _ _ ht)) (.cons (.str _) (.cons .non .nil)), .tup (SqT.of upd_same) (.cons (.str _) (.cons .non .nil)), by decide +kernel, by decide +kernel, ?_⟩
      have ee : PyData.eqv (.tuple [.str "Endless", .none]) (.tuple [.str "Endless", .none]) = true := by decide +kernel
      rw [ee]
      exact h _ (e2.trans (extS k4)) (T2.ext k4)
    | some l =>
      obtain ⟨pc, yc, rfl, hpc, hfc, hc4⟩ := hcv
      obtain ⟨p2, y2, ht, hp2, hf2⟩ := (show ResT H2 t (.told l) from hdue2)
      refine ⟨_, rfl, rfl, _, rfl, ifD (fun e => by cases e) (fun _ => ?_)⟩
      refine ⟨_, rfl, line2, fun q4 h4 => ?_⟩
      have k4 := same_new (o := .tup [.str "told", .ref pc]) h4
      refine ⟨_, rfl, _, _, rfl, ?_, fun H3 s3 => h _ (e2.trans (extS (Same.trans' k4 s3))) (T2.ext (Same.trans' k4 s3))⟩
      exact al_told upd_same (k4 _ _ ht) (k4 _ _ hpc) (k4 _ _ hp2) (hfc.mono k4) (hf2.mono k4) (by omega)
end
end Wk
set_option maxHeartbeats 4000000
namespace Wk
open PySem PySem.Spec PyProof.Rows L2
/-! ### wrong names -/
def inSg (c : Nat) : Bool := isL c || isD c
theorem nameOk_all {x : Str} (h : nameOk x = true) : ∀ c ∈ x.cps.toList, inSg c = true := by
  unfold nameOk at h
  intro c hc
  cases e : x.cps.toList with
  | nil => rw [e] at hc; cases hc
  | cons d r =>
    rw [e] at h hc
    have : (decide (r.length ≤ 11) && (isL d && (d :: r).all fun c => isL c || isD c)) = true := h
    simp only [Bool.and_eq_true] at this
    exact List.all_eq_true.mp this.2.2 c hc
theorem nameOk_lens {x : Str} (h : nameOk x = true) : 0 < x.cps.toList.length ∧ x.cps.toList.length ≤ 12 := by
  unfold nameOk at h
  cases e : x.cps.toList with
  | nil => rw [e] at h; cases h
  | cons d r =>
    rw [e] at h
    have : (decide (r.length ≤ 11) && (isL d && (d :: r).all fun c => isL c || isD c)) = true := h
    simp only [Bool.and_eq_true, decide_eq_true_eq] at this
    simp; omega
theorem nameOk_hd {x : Str} (h : nameOk x = true) {c : Nat} {r : List Nat} (e : x.cps.toList = c :: r) : isL c = true := by
  unfold nameOk at h
  rw [e] at h
  have : (decide (r.length ≤ 11) && (isL c && (c :: r).all fun c => isL c || isD c)) = true := h
  simp only [Bool.and_eq_true] at this
  exact this.2.1
theorem bad_sign {x : Str} {c : Nat} (hc : c ∈ x.cps.toList) (hb : inSg c = false) : nameOk x = false := by
  cases e : nameOk x with
  | false => rfl
  | true => rw [nameOk_all e c hc] at hb; cases hb
theorem bad_hd {x : Str} {c : Nat} {r : List Nat} (e : x.cps.toList = c :: r) (hb : isL c = false) : nameOk x = false := by
  cases q : nameOk x with
  | false => rfl
  | true => rw [nameOk_hd q e] at hb; cases hb
theorem bad_len {x : Str} (h : 12 < x.cps.toList.length) : nameOk x = false := by
  cases q : nameOk x with
  | false => rfl
  | true => have := (nameOk_lens q).2; omega
theorem app_cps (a b : Str) : (a ++ b).cps.toList = a.cps.toList ++ b.cps.toList := by
  rw [PySem.Str.cps_append]; simp
theorem bad_space (x : Str) : nameOk (x ++ (" " : Str)) = false := by
  refine bad_sign (c := 32) ?_ (by decide +kernel)
  rw [app_cps]
  exact List.mem_append_right _ (by decide +kernel)
theorem bad_long {x : Str} (h : nameOk x = true) : nameOk (x ++ ("0123456789ab" : Str)) = false := by
  refine bad_len ?_
  rw [app_cps, List.length_append]
  have e : ("0123456789ab" : Str).cps.toList.length = 12 := by decide +kernel
  have := (nameOk_lens h).1
  rw [e]; omega
theorem let_low {c : Nat} (h : isL c = true) : 97 ≤ c ∧ c ≤ 122 := by
  have : ∀ c ∈ letS.cps.toList, 97 ≤ c ∧ c ≤ 122 := by decide +kernel
  exact this c (of_decide_eq_true h)
theorem up_bad : ∀ c, 97 ≤ c ∧ c ≤ 122 → isL (c - 32) = false := by
  intro c h
  have : ∀ c, c < 123 → 97 ≤ c → isL (c - 32) = false := by decide +kernel
  exact this c (by omega) h.1
theorem bad_upper {x : Str} (h : nameOk x = true) : nameOk (Txt.upper x) = false := by
  cases e : x.cps.toList with
  | nil => have := (nameOk_lens h).1; rw [e] at this; simp at this
  | cons c r =>
    have lc := let_low (nameOk_hd h e)
    have ex : x = (⟨#[c]⟩ : Str) ++ strL r := by
      have := strL_cps x
      rw [e] at this
      rw [← this]
      show _ = strL [c] ++ strL r
      rw [strL_add]; rfl
    have eu : Txt.upper x = (⟨#[c - 32]⟩ : Str) ++ Txt.upper (strL r) := by
      rw [ex, PySem.W.KOpn.upper_app, PySem.W.KOpn.upper_one (by omega), if_pos lc]
    refine bad_hd (c := c - 32) (r := (Txt.upper (strL r)).cps.toList) ?_ (up_bad c lc)
    rw [eu, app_cps]; rfl
def foreS : Str := " !\"#$&'()*+,-./:;<=>?@ABCDEFGHIJKLMNOPQRSTUVWXYZ[\\]^_`{|}~\n"
theorem fore_bad : ∀ c ∈ foreS.cps.toList, inSg c = false := by decide +kernel
theorem dig_bad : ∀ c ∈ digS.cps.toList, isL c = false := by decide +kernel
theorem bad_mid {a b : Str} {d : Nat} (h : d ∈ foreS.cps.toList) : nameOk (a ++ (⟨#[d]⟩ : Str) ++ b) = false := by
  refine bad_sign (c := d) ?_ (fore_bad d h)
  rw [app_cps, app_cps]
  exact List.mem_append_left _ (List.mem_append_right _ (by simp))
theorem bad_dig {b : Str} {d : Nat} (h : d ∈ digS.cps.toList) : nameOk ((⟨#[d]⟩ : Str) ++ b) = false := by
  refine bad_hd (c := d) (r := b.cps.toList) ?_ (dig_bad d h)
  rw [app_cps]; rfl
theorem nodup_le : ∀ {ys ns : List Str}, ys.Nodup → (∀ y ∈ ys, y ∈ ns) → ys.length ≤ ns.length
  | [], _, _, _ => Nat.zero_le _
  | y :: ys, ns, hd, hs => by
    obtain ⟨h1, h2⟩ := List.nodup_cons.mp hd
    have hy := hs y List.mem_cons_self
    have := nodup_le (ns := ns.erase y) h2 fun z hz => (List.mem_erase_of_ne (fun e => h1 (by rw [← e]; exact hz))).mpr (hs z (List.mem_cons_of_mem _ hz))
    rw [List.length_erase_of_mem hy] at this
    have : 0 < ns.length := List.length_pos_of_mem hy
    simp; omega
theorem strange_one {ys ns : List Str} (hd : ys.Nodup) (hl : ns.length < ys.length) : ∃ x r, ys.filter (fun x => !decide (x ∈ ns)) = x :: r ∧ x ∈ ys ∧ x ∉ ns := by
  cases e : ys.filter (fun x => !decide (x ∈ ns)) with
  | nil =>
    exfalso
    have := nodup_le hd (ns := ns) fun y hy => by
      have := List.filter_eq_nil_iff.mp e y hy
      simpa using this
    omega
  | cons x r =>
    have hx : x ∈ ys.filter (fun x => !decide (x ∈ ns)) := by rw [e]; exact List.mem_cons_self
    obtain ⟨h1, h2⟩ := List.mem_filter.mp hx
    exact ⟨x, r, rfl, h1, by simpa using h2⟩
theorem lc_strs {K : PySem.W.Frag} {a D : Addr} {ys : List Str} {f : Str → Bool} {tt : TT} {σ : L2.St} {H1 : Hp} {Qd : Hp → Prop} (hq : H1 a = some (.lst (ys.map V.str))) (hD : H1 D = none) (hz : ys.length ≤ 1000) (h9 : σ.length = 9)
    (htt : ∀ x H (k : Bool → Hp → Prop), x ∈ ys → Same H1 H → k (f x) H → tt ((wipe σ [4]).set 4 (some (.str x))) H k) (hd : ∀ H, Same H1 H → H D = some (.lst ((ys.filter f).map V.str)) → Qd H) :
    ∃ W : Nat → Nat → Hp → Prop, (∃ m, W 0 m (upd H1 D (.lst []))) ∧ ∀ i m H, W i m H →
      ((Itl K a).stop i H ∧ Qd H) ∨ ((Itl K a).go i H ∧ ∃ Nx : Hp → Prop, (∀ H', Nx H' → ∃ m', m' < m ∧ W (i + 1) m' H') ∧ ∀ x H', (Itl K a).yld i H x H' → gName 4 x (wipe σ [4]) H' fun σ2 H2 => wipe σ2 [4] = wipe σ [4] ∧ tt σ2 H2 fun b H3 =>
        if b = true then tVar 4 σ2 H3 fun y H4 => ∃ acc, H4 D = some (.lst acc) ∧ acc.length < sizeLine ∧ Nx (upd H4 D (.lst (acc ++ [y]))) else Nx H3) := by
  refine lc_list (xs := ys.map V.str) (fun i H => Same H1 H ∧ H D = some (.lst (((ys.take i).filter f).map V.str))) ?_ (fun i H _ p => SqL.of (p.1 _ _ hq)) (fun i x H hx p => ?_) (fun H p => ?_)
  · exact ⟨same_new hD, by rw [List.take_zero]; exact upd_same⟩
  · obtain ⟨s, hacc⟩ := p
    rw [List.getElem?_map] at hx
    cases hy : ys[i]? with
    | none => rw [hy] at hx; cases hx
    | some y =>
      rw [hy] at hx
      cases hx
      have il := (List.getElem?_eq_some_iff.mp hy).1
      refine ⟨by simp [wipe, List.set_set], htt y H _ (List.mem_of_getElem? hy) s ?_⟩
      have ef : (ys.take (i + 1)).filter f = (ys.take i).filter f ++ (if f y = true then [y] else []) := by
        rw [take_snoc hy, List.filter_append]
        cases hf : f y <;> simp [hf]
      cases hf : f y with
      | false =>
        rw [hf] at ef
        refine iteF ⟨s, ?_⟩
        rw [ef]
        simpa using hacc
      | true =>
        rw [hf] at ef
        have le : ((ys.take i).filter f).length ≤ 1000 := by
          have := List.length_filter_le f (ys.take i)
          have := List.length_take_le i ys
          omega
        refine iteT ⟨.str y, ?_, _, hacc, Nat.lt_of_le_of_lt (show _ ≤ 1000 by rw [List.length_map]; exact le) (by decide), Same.own hD s, ?_⟩
        · rw [List.getElem?_set_self (by simp [wipe, h9])]
        · rw [ef, if_pos rfl, List.map_append]
          exact upd_same
  · obtain ⟨s, hacc⟩ := p
    rw [List.length_map, List.take_length] at hacc
    exact hd H s hacc
end Wk
set_option maxHeartbeats 4000000
namespace Wk
open PySem PySem.Spec PyProof.Rows L2
section
variable {P : Program} {w : World} {K : PySem.W.Frag} {mg : Str → Option Value} {base : Heap}
/-! ### the names -/
/-- all but the store and the tables is kept -/
def SameN (st : Addr) (H H' : Hp) : Prop := ∀ b o, b ≠ st → H b = some o → (∀ ps, o ≠ .tbl ps) → H' b = some o
theorem SameN.ofE {st : Addr} {H H' : Hp} (s : LamX.ExtN H H') : SameN st H H' := fun b o _ e n => s b o e n
theorem SameN.ofS {st : Addr} {H H' : Hp} (s : SameS st H H') : SameN st H H' := fun b o m e _ => s.keep b o m e
theorem SameN.trans {st : Addr} {H H1 H2 : Hp} (a : SameN st H H1) (b : SameN st H1 H2) : SameN st H H2 := fun c o m e n => b c o m (a c o m e n) n
/-- lists and tables aside -/
def SameQ (H H' : Hp) : Prop := ∀ b o, H b = some o → (∀ xs, o ≠ .lst xs) → (∀ ps, o ≠ .tbl ps) → H' b = some o
theorem SameN.q {st : Addr} {H H' : Hp} {c : Nat} (s : SameN st H H') (h : StoreOk H st c) : SameQ H H' := fun b o e n m => by
  obtain ⟨cl, ns, p, b', n', s', f, m', h1, _⟩ := h.ex
  refine s b o (fun z => ?_) e m
  rw [z, h1] at e
  exact n _ (Option.some.inj e).symm
theorem FrV.monoQ {H H' : Hp} {v : V} {x : Rat} (h : FrV H v x) (s : SameQ H H') : FrV H' v x := let ⟨a, e, q⟩ := h; ⟨a, e, s a _ q (fun _ z => nomatch z) (fun _ z => nomatch z)⟩
theorem PairV.monoQ {H H' : Hp} {v : V} {d : Rw} (h : PairV H v d) (s : SameQ H H') : PairV H' v d := let ⟨t, p, q, e, a, b, c⟩ := h; ⟨t, p, q, e, s _ _ a (fun _ z => nomatch z) (fun _ z => nomatch z), b.monoQ s, c.monoQ s⟩
theorem RowsF.monoQ {H H' : Hp} {xs : List V} {ds : List Rw} (h : RowsF H xs ds) (s : SameQ H H') : RowsF H' xs ds := ⟨h.len, fun i x e => let ⟨d, a, b⟩ := h.at_ i x e; ⟨d, a, b.monoQ s⟩⟩
theorem PerV.monoQ {H H' : Hp} {v : V} {r : Rat} (h : PerV H v r) (s : SameQ H H') : PerV H' v r := h.imp id fun ⟨a, b⟩ => ⟨a, b.monoQ s⟩
theorem CycA.monoQ {K : PySem.W.Frag} {H H' : Hp} {p : Addr} {d : Rw} (h : CycA K H p d) (s : SameQ H H') : CycA K H' p d := let ⟨dx, a, b, c, e, x, y, z⟩ := h; ⟨dx, a, b, c, s p _ e (fun _ q => nomatch q) (fun _ q => nomatch q), x.monoQ s, y.monoQ s, z.monoQ s⟩
theorem RowV.monoQ {K : PySem.W.Frag} {H H' : Hp} {v : V} {n : Str} {d : Rw} (h : RowV K H v n d) (s : SameQ H H') : RowV K H' v n d := let ⟨t, c, e, x, y⟩ := h; ⟨t, c, e, s t _ x (fun _ z => nomatch z) (fun _ z => nomatch z), y.monoQ s⟩
theorem SkyA.monoN {K : PySem.W.Frag} {st : Addr} {c : Nat} {H H' : Hp} {p : Addr} {ns : List Str} {ds : List Rw} (h : SkyA K H p ns ds) (hs : StoreOk H st c) (s : SameN st H H') : SkyA K H' p ns ds := by
  have q := s.q hs
  obtain ⟨dx, l, rows, a, b, r⟩ := h
  refine ⟨dx, l, rows, q _ _ a (fun _ z => nomatch z) (fun _ z => nomatch z), s _ _ (fun z => ?_) b (fun _ z => nomatch z), ⟨r.l1, r.l2, fun i v e => let ⟨n, d, x, y, z⟩ := r.at_ i v e; ⟨n, d, x, y, z.monoQ q⟩⟩⟩
  obtain ⟨cl, ns', p', b', n', s', f, m', h1, _⟩ := hs.ex
  rw [z, h1] at b
  cases b
  obtain ⟨n, d, _, _, t, c, e, _⟩ := r.at_ 1 _ rfl
  cases e
theorem tabs_monoS {K : PySem.W.Frag} {st : Addr} {c : Nat} {H H' : Hp} (h : LamX.Tabs (T3 K) H) (hs : StoreOk H st c) (s : SameS st H H') : LamX.Tabs (T3 K) H' := by
  have q := s.l hs
  intro pr hp
  obtain ⟨ps, a, b, r⟩ := h pr hp
  refine ⟨ps, q _ _ a (fun _ z => nomatch z), b, fun pos cv e => ?_⟩
  obtain ⟨c', e1, e2⟩ := r pos cv e
  exact ⟨c', e1, q _ _ e2 (fun _ z => nomatch z)⟩
theorem nameOk_line {x : Str} (h : nameOk x = true) : x.length ≤ sizeLine := by
  have := (nameOk_lens h).2
  rw [len_cps]
  exact Nat.le_trans this (by decide)
theorem al_two {K : PySem.W.Frag} {H : Hp} {p q : Addr} {a b : Str} (hp : H p = some (.tup [.str a, .str b])) (hq : H q = some (.tup [.str a, .str b])) : Al K H 4 (.ref p) (.ref q) := by
  refine .inr (.inr (.inr (.inr ⟨p, q, _, _, rfl, rfl, hp, hq, rfl, by simp, fun i u v hu hv => ?_⟩)))
  match i, hu, hv with
  | 0, hu, hv => cases hu; cases hv; exact .inr (.inr (.inl ⟨_, rfl, rfl⟩))
  | 1, hu, hv => cases hu; cases hv; exact .inr (.inr (.inl ⟨_, rfl, rfl⟩))
theorem str_line {n : Nat} (h : n ≤ 12 + 1 + 12) : n ≤ sizeLine := Nat.le_trans h (by decide)
theorem up_line (y : Str) (h : y.length ≤ 12) : (Txt.upper y).length ≤ sizeLine := by
  have : (Txt.upper y).cps.size ≤ 3 * y.cps.size := PySem.StrLaws.placedRaw_le3 y.cps (fun _ c => Unicode.upperOf c) fun _ c => PySem.StrLaws.upperOf_le3 c
  have e : y.length = y.cps.size := rfl
  exact Nat.le_trans (show (Txt.upper y).cps.size ≤ 36 by omega) (by decide)
theorem Nv.st {H H' : Hp} {v : V} {st : Addr} {c : Nat} (h : Nv H v) (hs : StoreOk H' st c) (s : SameS st H H') : Nv H' v := by
  rcases h with h | h | h | ⟨l, xs, e, hl⟩
  · exact .inl h
  · exact .inr (.inl h)
  · exact .inr (.inr (.inl h))
  · by_cases z : l = st
    · obtain ⟨cl, _, _, _, _, _, _, _, h1, _⟩ := hs.ex
      exact .inr (.inr (.inr ⟨l, _, e, by rw [z]; exact h1⟩))
    · exact .inr (.inr (.inr ⟨l, xs, e, s.keep _ _ z hl⟩))
theorem cut_len (z : Str) (lo hi : Option Int) : (cutS z lo hi).length ≤ z.length := by
  rw [len_cps, len_cps]
  show (((z.cps.toList.drop _).take _).toArray).toList.length ≤ _
  rw [List.toList_toArray, List.length_take, List.length_drop]
  omega
theorem Nv.monoE {H H' : Hp} {v : V} (h : Nv H v) (s : LamX.ExtN H H') : Nv H' v := by
  rcases h with h | h | h | ⟨l, xs, e, hl⟩
  · exact .inl h
  · exact .inr (.inl h)
  · exact .inr (.inr (.inl h))
  · exact .inr (.inr (.inr ⟨l, xs, e, s _ _ hl (fun _ z => nomatch z)⟩))
def spNamesR (K : PySem.W.Frag) : Sp := sp3 fun s y n H Q _ => ∃ (st : Addr) (c : Nat) (p : Addr) (ns : List Str) (ds : List Rw) (ln : Addr), s = .ref st ∧ StoreOk H st c ∧ c ≤ 40000 ∧ y = .ref p ∧ SkyA K H p ns ds ∧ n = .ref ln ∧ H ln = some (.lst (List.map V.str ns)) ∧ ln ≠ st ∧
  NamesOk ns ∧ 0 < ns.length ∧ ns.length ≤ 8 ∧ (∀ d ∈ ds, Big d.1 ∧ Big d.2) ∧ LamX.Tabs (T3 K) H ∧ ∀ H', SameN st H H' → LamX.Tabs (T3 K) H' → StoreOk H' st (c + 100) → Q (.bl true) H'
abbrev N__law_names_right : List Str := ["_law_store_here", "_law_sky", "_law_names", "_law_strange", "_law_name", "_law_wrong", "_law_signs_here", "_law_good", "_law_spot"]
theorem sc__law_names_right : FnScope N__law_names_right ["_law_store_here", "_law_sky", "_law_names"] (defScope S__law_names_right) := ⟨rfl, rfl, rfl, by decide +kernel, rfl, by decide +kernel, by decide +kernel⟩
theorem ok__law_names_right (T : Tx K mg) (d__law_alike : Ok P w K mg base 4 "_law_alike" ["_law_told", "_law_due"] (spAlike K 4)) (d_Sky_seen_from : OkM P w K mg base 7 "Sky" "seen_from" ["self", "name"] (spSeen K)) (d__law_take : Ok P w K mg base 2 "_law_take" ["_law_store_here", "_law_many_here"] spTake) (d__law_pick : Ok P w K mg base 3 "_law_pick" ["_law_store_here", "_law_row"] spPick) (d__law_words : Ok P w K mg base 3 "_law_words" ["_law_store_here", "_law_many_here"] spWords) (TB : LamX.TabB base mg (cdD K "_law_names_right") (tabOfD K "_law_names_right")) : Ok P w K mg base 12 "_law_names_right" ["_law_store_here", "_law_sky", "_law_names"] (spNamesR K) := by
  obtain ⟨fd, F⟩ := T.f__law_names_right
  have sc := sc__law_names_right
  refine okFC (F := F) T.g__law_names_right (F.bindsN fun _ _ _ _ _ _ us hl => match us, hl with | [_, _, _], _ => rfl) sc sp3_len (fun A outer s H vs Q E hr h => ?_)
  obtain ⟨u, v, z, rfl, h⟩ := h
  refine ⟨_, (pss_cons (ps_set (i := 3) sc.nd rfl (Or.inr rfl) (pe_ix ix_list (pe_lc rfl sc.nd (pi_list (pe_f d__law_words (hr.mono (by decide)) rfl passL (pa_cons (pv 0) (pa_cons pe_int pa_nil)))) (blkOk_by (N := N__law_names_right) (sc := defScope S__law_names_right) (own := [("_law_name", 4)]) (by decide +kernel)) (fun _ _ _ _ _ => (pg_name (i := 4) sc.nd rfl (Or.inl rfl))) (fun _ _ _ _ _ => (pts_one (pt_cmpR (op_notInK (K := K) rfl) (pv 4) (pv 2) rfl))) (fun _ _ _ _ _ => (pv 4))) pe_int (fun _ _ => rfl)))
      (pss_cons (ps_if (pt_not (pt_val (pe_f d__law_alike (hr.mono (by decide)) rfl passL (pa_cons (pe_ans (k := 9) T (.inr (.inl rfl)) rfl TB rfl rfl (hr.mono (by decide)) (LamX.lamS_by (sc := defScope S__law_names_right) (by decide +kernel)) rfl (fun _ _ _ _ _ => rfl) (fun A outer s H E f c' hrL => (pe_meth (pv 1) T.c_Sky T.t_Sky_seen_from d_Sky_seen_from.fn (hrL.mono (by decide)) d_Sky_seen_from.b .nil (passes_call (takes_of rfl rfl rfl rfl) fun _ _ _ _ z => z) (pa_cons (pv 3) pa_nil)))) (pa_cons (pe_tup (pa_cons pe_str (pa_cons (pv 3) pa_nil))) pa_nil))))) (pss_one (ps_ret pe_bl)) pss_nil)
      (pss_cons (ps_set (i := 5) sc.nd rfl (Or.inr rfl) (pe_lst (pa_cons pe_str (pa_cons pe_str (pa_cons (pe_op op_add_str (pe_ix ix_list (pv 2) pe_int (fun _ _ => rfl)) pe_str) (pa_cons (pe_upper (pe_ix ix_list (pv 2) pe_int (fun _ _ => rfl))) (pa_cons pe_non (pa_cons pe_int (pa_cons (pe_lst (pa_cons (pe_ix ix_list (pv 2) pe_int (fun _ _ => rfl)) pa_nil)) (pa_cons (pe_op op_add_str (pe_ix ix_list (pv 2) pe_int (fun _ _ => rfl)) pe_str) pa_nil))))))))))
      (pss_cons (ps_set (i := 5) sc.nd rfl (Or.inr rfl) (pe_f d__law_pick (hr.mono (by decide)) rfl passL (pa_cons (pv 0) (pa_cons (pv 5) pa_nil))))
      (pss_cons (ps_if (pt_cmpR op_eq (pe_f d__law_take (hr.mono (by decide)) rfl passL (pa_cons (pv 0) (pa_cons pe_int pa_nil))) pe_int (nomark _)) (pss_cons (ps_set (i := 6) sc.nd rfl (Or.inl rfl) pe_str)
      (pss_cons (ps_set (i := 7) sc.nd rfl (Or.inl rfl) (pe_f d__law_pick (hr.mono (by decide)) rfl passL (pa_cons (pv 0) (pa_cons (pv 2) pa_nil))))
      (pss_cons (ps_set (i := 8) sc.nd rfl (Or.inl rfl) (pe_f d__law_take (hr.mono (by decide)) rfl passL (pa_cons (pv 0) (pa_cons (pe_callB call_len (by rfl) T.b_len PySem.boot_len (pa_cons (pv 7) pa_nil)) pa_nil))))
      (pss_cons (ps_set (i := 5) sc.nd rfl (Or.inr rfl) (pe_op op_add_str (pe_op op_add_str (pe_slice sl_str (pv 7) po_none (po_some (pv 8))) (pe_f d__law_pick (hr.mono (by decide)) rfl passL (pa_cons (pv 0) (pa_cons (pv 6) pa_nil)))) (pe_slice sl_str (pv 7) (po_some (pe_op op_add (pv 8) pe_int)) po_none)))
      (pss_one (ps_if (pt_cmpR op_eq (pe_f d__law_take (hr.mono (by decide)) rfl passL (pa_cons (pv 0) (pa_cons pe_int pa_nil))) pe_int (nomark _)) (pss_one (ps_set (i := 5) sc.nd rfl (Or.inr rfl) (pe_op op_add_str (pe_f d__law_pick (hr.mono (by decide)) rfl passL (pa_cons (pv 0) (pa_cons pe_str pa_nil))) (pe_slice sl_str (pv 7) (po_some pe_int) po_none)))) pss_nil)))))) pss_nil)
      (pss_one (ps_ret (pe_f d__law_alike (hr.mono (by decide)) rfl passL (pa_cons (pe_ans (k := 9) T (.inr (.inl rfl)) rfl TB rfl rfl (hr.mono (by decide)) (LamX.lamS_by (sc := defScope S__law_names_right) (by decide +kernel)) rfl (fun _ _ _ _ _ => rfl) (fun A outer s H E f c' hrL => (pe_meth (pv 1) T.c_Sky T.t_Sky_seen_from d_Sky_seen_from.fn (hrL.mono (by decide)) d_Sky_seen_from.b .nil (passes_call (takes_of rfl rfl rfl rfl) fun _ _ _ _ z => z) (pa_cons (pv 5) pa_nil)))) (pa_cons (pe_tup (pa_cons pe_str (pa_cons pe_str pa_nil))) pa_nil)))))))))), ?_⟩
  obtain ⟨st, c, p, ns, ds, ln, rfl, hs, hc, rfl, hsk, rfl, hln, nst, hok, n0, n8, hbig, hT, h⟩ := h
  try dsimp only
  refine seq_intro (fun σ' H' => ∃ x : Str, σ' = [some (.ref st), some (.ref p), some (.ref ln), some (.str x), none, none, none, none, none] ∧ SameS st H H' ∧ StoreOk H' st (c + 20) ∧ nameOk x = true ∧ x ∉ ns) (fun R hR => ?_) ?_
  · refine ⟨_, rfl, _, _, rfl, st, c, 36, rfl, rfl, hs, by omega, by omega, fun L ys H1 sm hs1 own hL hl hok1 => ?_⟩
    have hln1 := sm.keep _ _ nst hln
    refine ⟨L, rfl, ⟨_, SqL.of hL⟩, fun D hD => ?_⟩
    refine lc_strs (ys := ys) (f := fun x => !decide (x ∈ ns)) hL hD (by omega) rfl (fun x Hx k hx sx hk => ?_) (fun H2 s2 hD2 => ?_)
    · refine ⟨_, rfl, _, rfl, ln, _, rfl, .inl (SqL.of (sx _ _ hln1)), rfl, strs_flat ns, ?_⟩
      rw [if_pos rfl, inV_strs]
      exact ⟨_, rfl, hk⟩
    · obtain ⟨x, r, ef, hx, hn⟩ := strange_one (ns := ns) hok1.nd (by omega)
      rw [ef] at hD2
      refine ⟨D, _, _, _, rfl, rfl, SqL.of hD2, at_0, ?_⟩
      exact hR _ _ ⟨x, rfl, sm.trans (SameS.of s2), hs1.same s2, hok1.ok x hx, hn⟩
  rintro σ' H1 ⟨x, rfl, sm1, hs1, hx, hxn⟩
  try dsimp only
  have hln1 := sm1.keep _ _ nst hln
  have hsk1 : SkyA K H1 p ns ds := hsk.monoN hs (SameN.ofS sm1)
  refine seq_intro (fun σ' H2 => σ' = [some (.ref st), some (.ref p), some (.ref ln), some (.str x), none, none, none, none, none] ∧ LamX.ExtN H1 H2 ∧ LamX.Tabs (T3 K) H2) (fun R hR => ?_) ?_
  · have hT1 : LamX.Tabs (T3 K) H1 := tabs_monoS hT hs sm1
    refine ⟨hT1, fun H2 e2 T2 => ?_⟩
    have hsk2 := hsk1.monoE e2
    obtain ⟨dx, l, rows, hp2, _⟩ := id hsk2
    refine ⟨_, rfl, p, dx, _, rfl, hp2, rfl, _, rfl, _, _, rfl, p, ns, ds, rfl, hsk2, hok, n8, hbig, .inl ⟨x, rfl, nameOk_line hx⟩, fun e => ?_, fun _ => ⟨x, rfl, .inl ⟨hxn, fun dd H3 s3 hdd => ?_⟩⟩⟩
    · rw [show fitsB (.str x) = nameOk x from rfl, hx] at e; cases e
    refine .inl ⟨_, _, List.mem_cons_of_mem _ List.mem_cons_self, rfl, dd, _, rfl, hdd, fun t H4 s4 ht => ?_⟩
    refine ⟨_, rfl, line2, fun q hq => ⟨_, _, rfl, ?_, fun H5 s5 => ⟨true, rfl, iteF ?_⟩⟩⟩
    · exact al_two (same_new hq _ _ ht) upd_same
    · have all := Same.trans' s3 (Same.trans' s4 (Same.trans' (same_new hq) s5))
      exact hR _ _ ⟨rfl, e2.trans (extS all), T2.ext all⟩
  rintro σ' H2 ⟨rfl, e12, T2⟩
  have hs2 := hs1.monoE e12
  have hln2 := e12 _ _ hln1 (fun _ z => nomatch z)
  have hsk2 := hsk1.monoE e12
  have sn2 : SameN st H H2 := (SameN.ofS sm1).trans (SameN.ofE e12)
  try dsimp only
  obtain ⟨y, nr, rfl⟩ : ∃ y nr, ns = y :: nr := by
    cases ns with
    | nil => simp at n0
    | cons y nr => exact ⟨y, nr, rfl⟩
  have hy := hok.ok y List.mem_cons_self
  have ly := (nameOk_lens hy).2
  rw [← len_cps] at ly
  refine seq_intro (fun σ' H3 => ∃ D D1 : Addr, σ' = [some (.ref st), some (.ref p), some (.ref ln), some (.str x), none, some (.ref D), none, none, none] ∧ Same H2 H3 ∧ H3 D1 = some (.lst [.str y]) ∧ D ≠ st ∧ H3 D = some (.lst [.str "", .str "A", .str (y ++ (" " : Str)), .str (Txt.upper y), .non, .int 0, .ref D1, .str (y ++ ("0123456789ab" : Str))])) (fun R hR => ?_) ?_
  · refine ⟨_, rfl, ln, _, _, _, rfl, rfl, SqL.of hln2, at_0, _, _, rfl, rfl, ?_, ?_⟩
    · exact Nat.le_trans (show y.length + 1 ≤ 13 by omega) (by decide)
    refine ⟨_, rfl, ln, _, _, _, rfl, rfl, SqL.of hln2, at_0, ⟨_, rfl⟩, _, rfl, rfl, by omega, ?_⟩
    refine ⟨_, rfl, ln, _, _, _, rfl, rfl, SqL.of hln2, at_0, by show 1 ≤ sizeLine; decide, fun D1 hD1 => ?_⟩
    have k1 := same_new (o := .lst [.str y]) hD1
    refine ⟨_, rfl, ln, _, _, _, rfl, rfl, SqL.of (k1 _ _ hln2), at_0, _, _, rfl, rfl, ?_, ?_⟩
    · exact Nat.le_trans (show y.length + 12 ≤ 24 by omega) (by decide)
    refine ⟨by show 8 ≤ sizeLine; decide, fun D hD => ?_⟩
    have k2 := same_new (o := .lst [.str "", .str "A", .str (y ++ (" " : Str)), .str (Txt.upper y), .non, .int 0, .ref D1, .str (y ++ ("0123456789ab" : Str))]) hD
    refine hR _ _ ⟨D, D1, rfl, Same.trans' k1 k2, k2 _ _ upd_same, fun z => ?_, upd_same⟩
    obtain ⟨cl, _, _, _, _, _, _, _, h1, _⟩ := hs2.ex
    rw [z, k1 _ _ h1] at hD
    cases hD
  rintro σ' H3 ⟨D, D1, rfl, s23, hD1, nD, hD⟩
  try dsimp only
  have hs3 := hs2.same s23
  have hln3 := s23 _ _ hln2
  have hsk3 := hsk2.mono s23
  have T3' := T2.ext s23
  refine seq_intro (fun σ' H4 => ∃ wv : V, σ' = [some (.ref st), some (.ref p), some (.ref ln), some (.str x), none, some wv, none, none, none] ∧ SameS st H3 H4 ∧ StoreOk H4 st (c + 21) ∧ Nv H4 wv ∧ fitsB wv = false) (fun R hR => ?_) ?_
  · refine ⟨_, rfl, _, rfl, _, _, rfl, st, c + 20, rfl, hs3, by omega, .inl ⟨D, _, rfl, hD, nD, by simp, by simp, fun i wv H4 hi sm hs4 => ?_⟩⟩
    have hw : Nv H4 wv ∧ fitsB wv = false := by
      match i, hi with
      | 0, hi => cases hi; exact ⟨.inl ⟨_, rfl, by decide +kernel⟩, by decide +kernel⟩
      | 1, hi => cases hi; exact ⟨.inl ⟨_, rfl, by decide +kernel⟩, by decide +kernel⟩
      | 2, hi => cases hi; exact ⟨.inl ⟨_, rfl, str_line (by rw [Str.length_append]; exact Nat.le_trans (Nat.add_le_add ly (by decide +kernel : (" " : Str).length ≤ 12)) (by decide))⟩, bad_space y⟩
      | 3, hi => cases hi; exact ⟨.inl ⟨_, rfl, up_line y ly⟩, bad_upper hy⟩
      | 4, hi => cases hi; exact ⟨.inr (.inl rfl), rfl⟩
      | 5, hi => cases hi; exact ⟨.inr (.inr (.inl ⟨_, rfl⟩)), rfl⟩
      | 6, hi => cases hi; exact ⟨.inr (.inr (.inr ⟨_, _, rfl, sm.keep _ _ (fun z => by rw [z] at hD1; obtain ⟨cl, _, _, _, _, _, _, _, h1, _⟩ := hs3.ex; rw [h1] at hD1; cases hD1) hD1⟩)), rfl⟩
      | 7, hi => cases hi; exact ⟨.inl ⟨_, rfl, str_line (by rw [Str.length_append]; exact Nat.le_trans (Nat.add_le_add ly (by decide +kernel : ("0123456789ab" : Str).length ≤ 12)) (by decide))⟩, bad_long hy⟩
    exact hR _ _ ⟨wv, rfl, sm, hs4, hw.1, hw.2⟩
  rintro σ' H4 ⟨wv, rfl, sm4, hs4, hnv, hft⟩
  have sn4 : SameN st H H4 := sn2.trans ((SameN.ofE (extS s23)).trans (SameN.ofS sm4))
  have hsk4 := hsk3.monoN hs3 (SameN.ofS sm4)
  have hln4 := sm4.keep _ _ nst hln3
  have T4 := tabs_monoS T3' hs3 sm4
  try dsimp only
  refine seq_intro (fun σ' H5 => ∃ (wv : V) (o6 o7 o8 : Option V), σ' = [some (.ref st), some (.ref p), some (.ref ln), some (.str x), none, some wv, o6, o7, o8] ∧ SameS st H4 H5 ∧ StoreOk H5 st (c + 40) ∧ Nv H5 wv ∧ fitsB wv = false) (fun R hR => ?_) ?_
  · refine ⟨_, rfl, _, _, rfl, st, c + 21, 2, rfl, rfl, hs4, by omega, by decide, fun z H5 sm5 hs5 z0 z1 => ?_⟩
    refine ⟨rfl, _, rfl, ifD (fun _ => ?_) (fun _ => ?_)⟩
    · have hln5 := sm5.keep _ _ nst hln4
      refine ⟨_, rfl, _, rfl, _, _, rfl, st, c + 22, rfl, hs5, by omega, .inl ⟨ln, _, rfl, hln5, nst, by simp, by simp at n8 ⊢; omega, fun i gv H6 hi sm6 hs6 => ?_⟩⟩
      obtain ⟨g, rfl, hg⟩ : ∃ g, gv = .str g ∧ nameOk g = true := by
        rw [List.getElem?_map] at hi
        cases q : (y :: nr)[i]? with
        | none => rw [q] at hi; cases hi
        | some g => rw [q] at hi; cases hi; exact ⟨g, rfl, hok.ok g (List.mem_of_getElem? q)⟩
      have lg := nameOk_lens hg
      rw [← len_cps] at lg
      refine ⟨_, rfl, _, rfl, _, _, rfl, ⟨str_line (by omega), rfl⟩, _, _, rfl, st, c + 23, _, rfl, rfl, hs6, by omega, by omega, fun z8 H7 sm7 hs7 a0 a1 => ?_⟩
      have lc := fun lo hi => cut_len g lo hi
      refine ⟨_, rfl, _, rfl, _, rfl, g, rfl, str_line (by omega), ?_⟩
      refine ⟨_, rfl, _, rfl, _, _, rfl, st, c + 24, rfl, hs7, by omega, .inr ⟨foreS, rfl, by decide +kernel, by decide +kernel, fun d H8 hd sm8 hs8 => ?_⟩⟩
      refine ⟨_, _, rfl, rfl, str_line (Nat.le_trans (Nat.add_le_add (lc _ _) (Nat.le_refl 1)) (by omega)), ?_⟩
      refine ⟨_, rfl, _, rfl, _, _, rfl, rfl, _, rfl, g, rfl, str_line (by omega), ?_⟩
      refine ⟨_, _, rfl, rfl, ?_, ?_⟩
      · rw [Str.length_append]
        have l1 := lc none (some z8)
        have l2 := lc (some (z8 + 1)) none
        exact str_line (show _ + 1 + _ ≤ _ by omega)
      have lw : ((cutS g none (some z8) ++ (⟨#[d]⟩ : Str)) ++ cutS g (some (z8 + 1)) none).length ≤ sizeLine := by
        rw [Str.length_append, Str.length_append]
        have l1 := lc none (some z8)
        have l2 := lc (some (z8 + 1)) none
        exact str_line (show _ + 1 + _ ≤ _ by omega)
      have sm8' := sm5.trans (sm6.trans (sm7.trans sm8))
      refine ⟨_, rfl, _, _, rfl, st, c + 25, 4, rfl, rfl, hs8.le (by omega), by omega, by decide, fun z9 H9 sm9 hs9 b0 b1 => ⟨rfl, _, rfl, ifD (fun _ => ?_) (fun _ => ?_)⟩⟩
      · refine ⟨_, rfl, _, _, rfl, st, c + 26, rfl, hs9, by omega, .inr ⟨digS, rfl, by decide +kernel, by decide +kernel, fun d2 H10 hd2 sm10 hs10 => ?_⟩⟩
        refine ⟨_, rfl, _, rfl, g, rfl, str_line (by omega), _, _, rfl, rfl, ?_, ?_⟩
        · exact str_line (Nat.le_trans (Nat.add_le_add (Nat.le_refl 1) (lc _ _)) (by omega))
        refine hR _ _ ⟨_, _, _, _, rfl, sm8'.trans (sm9.trans sm10), hs10.le (by omega), .inl ⟨_, rfl, ?_⟩, bad_dig hd2⟩
        rw [Str.length_append]
        exact str_line (Nat.le_trans (Nat.add_le_add (Nat.le_refl 1) (lc _ _)) (by omega))
      · exact hR _ _ ⟨_, _, _, _, rfl, sm8'.trans sm9, hs9.le (by omega), .inl ⟨_, rfl, lw⟩, bad_mid hd⟩
    · exact hR _ _ ⟨wv, _, _, _, rfl, sm5, hs5.le (by omega), hnv.st hs5 sm5, hft⟩
  rintro σ' H5 ⟨wv, o6, o7, o8, rfl, sm5, hs5, hnv, hft⟩
  have sn5 := sn4.trans (SameN.ofS sm5)
  have hsk5 := hsk4.monoN hs4 (SameN.ofS sm5)
  have T5 := tabs_monoS T4 hs4 sm5
  try dsimp only
  refine ⟨T5, fun H6 e6 T6 => ?_⟩
  have hsk6 := hsk5.monoE e6
  obtain ⟨dx, l, rows, hp6, _⟩ := id hsk6
  refine ⟨_, rfl, p, dx, _, rfl, hp6, rfl, _, rfl, _, _, rfl, p, y :: nr, ds, rfl, hsk6, hok, n8, hbig, hnv.monoE e6, fun _ => fun dd H7 s7 hdd => ?_, fun e => by rw [hft] at e; cases e⟩
  refine .inl ⟨_, _, List.mem_cons_self, rfl, dd, _, rfl, hdd, fun t H8 s8 ht => ?_⟩
  refine ⟨line2, fun q hq => ⟨_, _, rfl, ?_, fun H9 s9 => ?_⟩⟩
  · exact al_two (same_new hq _ _ ht) upd_same
  · have all := Same.trans' s7 (Same.trans' s8 (Same.trans' (same_new hq) s9))
    exact h _ (sn5.trans ((SameN.ofE e6).trans (SameN.ofE (extS all)))) (T6.ext all) (((hs5.monoE e6).same all).le (by omega))
end
end Wk
set_option maxHeartbeats 4000000
namespace Wk
/-! ### the law's rows: plain -/
theorem mt_mem {as bs : List Rw} (h : ∀ d, d ∈ as ↔ d ∈ bs) (m : Rat) : Mt as m ↔ Mt bs m :=
  ⟨fun q p hp r hr => q p ((h p).mpr hp) r ((h r).mpr hr), fun q p hp r hr => q p ((h p).mp hp) r ((h r).mp hr)⟩
theorem whole_fr {x y : Rat} : Whole (fr x + y) ↔ Whole (x + y) := by
  have e : fr x + y = (x + y) + ((-x.floor : Int) : Rat) := by
    unfold fr
    push_cast
    grind
  rw [e]
  constructor
  · rintro ⟨n, h⟩
    exact ⟨n + x.floor, by push_cast at h ⊢; grind⟩
  · rintro ⟨n, h⟩
    exact ⟨n - x.floor, by push_cast at h ⊢; grind⟩
theorem md_seen {ds : List Rw} {m : Rw} (hm : m ∈ ds) (x : Rat) : Md (ds.map (subRow m)) x ↔ Mt ds x := by
  have key : ∀ d : Rw, Whole ((subRow m d).2 + (subRow m d).1 * x) ↔ Whole ((d.2 + d.1 * x) - (m.2 + m.1 * x)) := fun d => by
    show Whole (fr (d.2 - m.2) + (d.1 - m.1) * x) ↔ _
    rw [whole_fr]
    have e : d.2 - m.2 + (d.1 - m.1) * x = (d.2 + d.1 * x) - (m.2 + m.1 * x) := by grind
    rw [e]
  constructor
  · intro h
    have k2 : ∀ d ∈ ds, Whole ((d.2 + d.1 * x) - (m.2 + m.1 * x)) := fun d hd => (key d).mp (h _ (List.mem_map.mpr ⟨d, hd, rfl⟩))
    intro p hp q hq
    have e : (p.2 + p.1 * x) - (q.2 + q.1 * x) = ((p.2 + p.1 * x) - (m.2 + m.1 * x)) - ((q.2 + q.1 * x) - (m.2 + m.1 * x)) := by grind
    rw [e]
    exact (k2 p hp).sub (k2 q hq)
  · intro h d hd
    obtain ⟨u, hu, rfl⟩ := List.mem_map.mp hd
    exact (key u).mpr (h u hu m hm)
theorem mt_seen {ds : List Rw} {m : Rw} (x : Rat) : Mt (ds.map (subRow m)) x ↔ Mt ds x := by
  have key : ∀ p q : Rw, Whole (((subRow m p).2 + (subRow m p).1 * x) - ((subRow m q).2 + (subRow m q).1 * x)) ↔ Whole ((p.2 + p.1 * x) - (q.2 + q.1 * x)) := fun p q => by
    show Whole ((fr (p.2 - m.2) + (p.1 - m.1) * x) - (fr (q.2 - m.2) + (q.1 - m.1) * x)) ↔ _
    have e : (fr (p.2 - m.2) + (p.1 - m.1) * x) - (fr (q.2 - m.2) + (q.1 - m.1) * x) = ((p.2 + p.1 * x) - (q.2 + q.1 * x)) + (((q.2 - m.2).floor - (p.2 - m.2).floor : Int) : Rat) := by
      unfold fr
      push_cast
      grind
    rw [e]
    constructor
    · rintro ⟨n, h⟩
      exact ⟨n - ((q.2 - m.2).floor - (p.2 - m.2).floor), by push_cast at h ⊢; grind⟩
    · rintro ⟨n, h⟩
      exact ⟨n + ((q.2 - m.2).floor - (p.2 - m.2).floor), by push_cast at h ⊢; grind⟩
  constructor
  · intro h p hp q hq
    exact (key p q).mp (h _ (List.mem_map.mpr ⟨p, hp, rfl⟩) _ (List.mem_map.mpr ⟨q, hq, rfl⟩))
  · intro h p hp q hq
    obtain ⟨u, hu, rfl⟩ := List.mem_map.mp hp
    obtain ⟨v, hv, rfl⟩ := List.mem_map.mp hq
    exact (key u v).mpr (h u hu v hv)
theorem RuleFor.congr {M M' : Rat → Prop} (e : ∀ m, M m ↔ M' m) : ∀ {R : Rule}, RuleFor M R → RuleFor M' R
  | none, h => fun m z => h m ((e m).mpr z)
  | some (f, none), h => ⟨h.1, fun m => (e m).mp (h.2 m)⟩
  | some (f, some I), h => ⟨h.1, h.2.1, h.2.2.1, fun m => (e m).symm.trans (h.2.2.2 m)⟩
/-! ### sizes -/
/-- rows that come of the law's rows: rates of 27720ths, starts in [0, 1) whose differences are small -/
structure RowsS (ds : List Rw) : Prop where
  l2 : 2 ≤ ds.length
  l6 : ds.length ≤ 6
  pl : ∀ d ∈ ds, 0 ≤ d.2 ∧ d.2 < 1
  rt : ∀ d ∈ ds, ∀ e ∈ ds, RateN 221760 (d.1 - e.1)
  st : ∀ d ∈ ds, ∀ e ∈ ds, Sz 40 (d.2 - e.2)
  big : ∀ d ∈ ds, Sz 18 d.1 ∧ Sz 40 d.2
theorem RowsS.of {ds : List Rw} (h : RowsD ds) : RowsS ds where
  l2 := h.1
  l6 := h.2.1
  pl d hd := ⟨(h.2.2 d hd).2.2.1, (h.2.2 d hd).2.2.2⟩
  rt d hd e he := (h.2.2 d hd).1.2.sub (h.2.2 e he).1.2
  st d hd e he := (((h.2.2 d hd).2.1).sub (h.2.2 e he).2.1).mono (by decide)
  big d hd := ⟨(h.2.2 d hd).1.1.mono (by decide), (h.2.2 d hd).2.1.mono (by decide)⟩
theorem RowsS.mem {ds es : List Rw} (h : RowsS ds) (e : ∀ d, d ∈ es ↔ d ∈ ds) (l : es.length = ds.length) : RowsS es where
  l2 := by rw [l]; exact h.l2
  l6 := by rw [l]; exact h.l6
  pl d hd := h.pl d ((e d).mp hd)
  rt d hd f hf := h.rt d ((e d).mp hd) f ((e f).mp hf)
  st d hd f hf := h.st d ((e d).mp hd) f ((e f).mp hf)
  big d hd := h.big d ((e d).mp hd)
theorem fr_sub (x y : Rat) : fr x - fr y = (x - y) + ((y.floor - x.floor : Int) : Rat) := by
  unfold fr
  push_cast
  grind
theorem RowsS.seen {ds : List Rw} (h : RowsS ds) {m : Rw} (hm : m ∈ ds) : RowsS (ds.map (subRow m)) where
  l2 := by simpa using h.l2
  l6 := by simpa using h.l6
  pl d hd := by
    obtain ⟨u, hu, rfl⟩ := List.mem_map.mp hd
    exact ⟨fr_nn _, fr_lt _⟩
  rt d hd e he := by
    obtain ⟨u, hu, rfl⟩ := List.mem_map.mp hd
    obtain ⟨v, hv, rfl⟩ := List.mem_map.mp he
    have q : (subRow m u).1 - (subRow m v).1 = u.1 - v.1 := by show (u.1 - m.1) - (v.1 - m.1) = _; grind
    rw [q]
    exact h.rt u hu v hv
  st d hd e he := by
    obtain ⟨u, hu, rfl⟩ := List.mem_map.mp hd
    obtain ⟨v, hv, rfl⟩ := List.mem_map.mp he
    have a := h.st u hu v hv
    have q : (subRow m u).2 - (subRow m v).2 = (u.2 - v.2) + (((v.2 - m.2).floor - (u.2 - m.2).floor : Int) : Rat) := by
      show fr (u.2 - m.2) - fr (v.2 - m.2) = _
      rw [fr_sub]
      have : u.2 - m.2 - (v.2 - m.2) = u.2 - v.2 := by grind
      rw [this]
    have b0 : (0 : Rat) ≤ (subRow m u).2 := fr_nn _
    have b1 : (subRow m u).2 < 1 := fr_lt _
    have c0 : (0 : Rat) ≤ (subRow m v).2 := fr_nn _
    have c1 : (subRow m v).2 < 1 := fr_lt _
    exact a.shift _ q (by grind) (by grind)
  big d hd := by
    obtain ⟨u, hu, rfl⟩ := List.mem_map.mp hd
    refine ⟨(h.rt u hu m hm).sz (by decide), ?_⟩
    have b0 : (0 : Rat) ≤ fr (u.2 - m.2) := fr_nn _
    have b1 : fr (u.2 - m.2) < 1 := fr_lt _
    exact (h.st u hu m hm).shift (-(u.2 - m.2).floor) (by show fr (u.2 - m.2) = _; unfold fr; push_cast; grind) (by show -1 < fr (u.2 - m.2); grind) b1
theorem RowsS.small {d0 : Rw} {dr : List Rw} (h : RowsS (d0 :: dr)) : SmallD d0 dr where
  n1 := by have := h.l2; simp at this; omega
  n5 := by have := h.l6; simp at this; omega
  big d hd := ⟨(h.big d hd).1.mono (by decide), (h.big d hd).2.mono (by decide)⟩
  sz d hd := by
    obtain ⟨q, hq, rfl⟩ := List.mem_map.mp hd
    exact ⟨((h.rt q (List.mem_cons_of_mem _ hq) d0 List.mem_cons_self).sz (by decide)).mono (by decide), h.st q (List.mem_cons_of_mem _ hq) d0 List.mem_cons_self⟩
theorem RowsS.diff {d0 : Rw} {dr : List Rw} (h : RowsS (d0 :: dr)) : ∀ d ∈ diffs d0 dr, RateN 221760 d.1 ∧ Sz 40 d.2 := fun d hd => by
  obtain ⟨q, hq, rfl⟩ := List.mem_map.mp hd
  exact ⟨h.rt q (List.mem_cons_of_mem _ hq) d0 List.mem_cons_self, h.st q (List.mem_cons_of_mem _ hq) d0 List.mem_cons_self⟩
/-- what the law knows of its rule -/
structure RuleS (ds : List Rw) (R : Rule) : Prop where
  mt : RuleFor (Mt ds) R
  sz : ∀ f I, R = some (f, some I) → Sz 100 f ∧ Sz 100 I ∧ 1 ≤ 8 * I ∧ I ≤ 27720
theorem RuleS.of {d0 : Rw} {dr : List Rw} {R : Rule} (h : RowsS (d0 :: dr)) (r : RuleFor (Md (diffs d0 dr)) R) : RuleS (d0 :: dr) R where
  mt := r.congr fun m => (mt_md d0 dr m).symm
  sz f I e := by
    subst e
    exact rule_small r (fun d hd => (h.diff d hd).1) (fun d hd => (h.diff d hd).2)
theorem RuleS.rsz {ds : List Rw} {R : Rule} (h : RuleS ds R) : RSz 600 R := by
  rcases R with _ | ⟨f, _ | I⟩
  · trivial
  · trivial
  · obtain ⟨a, b, _⟩ := h.sz f I rfl
    exact ⟨a.mono (by decide), b.mono (by decide)⟩
theorem RuleS.due {ds : List Rw} {R : Rule} (h : RuleS ds R) {a b : Rat} (ab : a ≤ b) (lim : ∀ f I, R = some (f, some I) → -1000000144 ≤ a ∧ b ≤ 1000000144) : DuePre R a b := by
  rcases R with _ | ⟨f, _ | I⟩
  · trivial
  · trivial
  · obtain ⟨x, y, i8, i1⟩ := h.sz f I rfl
    obtain ⟨p, f0, f1, _⟩ := h.mt
    obtain ⟨la, lb⟩ := lim f I rfl
    exact ⟨⟨p, i8, i1, f0, f1, la, ab, lb⟩, x.mono (by decide), y.mono (by decide)⟩
/-- the rule at the differences of any rows with the same meetings -/
theorem RuleS.at {ds : List Rw} {R : Rule} (h : RuleS ds R) {e0 : Rw} {er : List Rw} (e : ∀ m, Mt (e0 :: er) m ↔ Mt ds m) : RuleFor (Md (diffs e0 er)) R :=
  h.mt.congr fun m => (e m).symm.trans (mt_md e0 er m)
theorem RuleS.seen {ds : List Rw} {R : Rule} (h : RuleS ds R) {m : Rw} (hm : m ∈ ds) : RuleFor (Md (ds.map (subRow m))) R :=
  h.mt.congr fun x => (md_seen hm x).symm
end Wk
set_option maxHeartbeats 4000000
namespace Wk
open PySem PySem.Spec PyProof.Rows L2
/-! ### the law: what its walk uses -/
theorem sz_all {n : Nat} {x : Rat} (h : Sz n x) {M : Rat} (hM : ((((2 ^ n : Nat) : Int) : Rat)) ≤ M) : -M ≤ x ∧ x ≤ M := by
  obtain ⟨h1, h2⟩ := h.abs
  constructor <;> grind
theorem mom_all {x : Rat} (h : MomOk x) : -1000000000 ≤ x ∧ x ≤ 1000000000 := sz_all (n := 8) h (by decide +kernel)
theorem span_all {n : Nat} {a b : Rat} (h : SpanN n a b) (l : n ≤ 600) : a ≤ b ∧ Sz 600 a ∧ Sz 600 b := ⟨h.1, h.2.1.mono l, h.2.2.mono l⟩
/-- a moment of the rule -/
theorem rule_moment {f I : Rat} {k : Int} (sf : Sz 100 f) (sI : Sz 100 I) (f0 : 0 ≤ f) (f1 : f < I) (i1 : I ≤ 27720) (k0 : -6 ≤ k) (k1 : k ≤ 6) :
    Sz 250 (f + I * (k : Rat)) ∧ -1000000000 ≤ f + I * (k : Rat) ∧ f + I * (k : Rat) ≤ 1000000000 := by
  have zk : Sz 3 (k : Rat) := Sz.int (by omega) (by decide)
  refine ⟨(sf.add (sI.mul zk)).mono (by decide), ?_, ?_⟩
  · have := mi (y := I) (a := -6) (b := k) (by grind) k0
    simp at this
    grind
  · have := mi (y := I) (a := k) (b := 6) (by grind) k1
    simp at this
    grind
theorem due_len {R : Rule} {a b : Rat} {l : List Rat} (h : dueRes R a b = .told l) : l.length ≤ 400 := by
  rcases R with _ | ⟨f, _ | I⟩
  · cases h; simp
  · cases h
  · have h : stepsRes f I a b = .told l := h
    unfold stepsRes at h
    split at h
    · cases h
    · injection h with h
      rw [← h, listK_len]
      omega
theorem al_pair {K : PySem.W.Frag} {H : Hp} {p q : Addr} {x : Str} {u v : V} {n : Nat} (hp : H p = some (.tup [.str x, u])) (hq : H q = some (.tup [.str x, v])) (h : Al K H (n + 1) u v) : Al K H (n + 2) (.ref p) (.ref q) := by
  refine .inr (.inr (.inr (.inr ⟨p, q, _, _, rfl, rfl, hp, hq, rfl, by simp, fun i u' v' hu hv => ?_⟩)))
  match i, hu, hv with
  | 0, hu, hv => cases hu; cases hv; exact .inr (.inr (.inl ⟨_, rfl, rfl⟩))
  | 1, hu, hv => cases hu; cases hv; exact h
theorem al_res {K : PySem.W.Frag} {H : Hp} {p q : Addr} {r : Res} (h : ResT H p r) (h' : ResT H q r) (hl : ∀ l, r = .told l → l.length ≤ 1000) : Al K H 4 (.ref p) (.ref q) := by
  cases r with
  | told l =>
    obtain ⟨p1, xs, a1, b1, c1⟩ := h
    obtain ⟨q1, ys, a2, b2, c2⟩ := h'
    exact al_told a1 a2 b1 b2 c1 c2 (hl l rfl)
  | endless => exact al_pair (n := 2) h h' (.inl ⟨rfl, rfl⟩)
  | many => exact al_pair (n := 2) h h' (.inr (.inl ⟨_, rfl, rfl⟩))
/-- what a call's outcome becomes -/
theorem gv_ans {K : PySem.W.Frag} {H : Hp} {Q : VK} : ∀ {r : Res}, (∀ t H', Same H H' → ResT H' t r → Q (.ref t) H') →
    GvRes K H (fun v H1 => [V.str "told", v].length ≤ sizeLine ∧ ∀ p, H1 p = none → Q (.ref p) (upd H1 p (.tup [.str "told", v]))) (EAns K Q) r
  | .told l, h => fun p xs H' s hp hF => ⟨line2, fun q hq => h q _ (Same.trans' s (same_new hq)) ⟨p, xs, upd_same, same_new hq _ _ hp, hF.mono (same_new hq)⟩⟩
  | .endless, h => fun H' s => .inr ⟨rfl, rfl, fun t H'' s2 ht => h t _ (Same.trans' s s2) ht⟩
  | .many, h => fun dd H' s hdd => .inl ⟨"TooMany", "limit", by simp [xNames], rfl, dd, _, rfl, hdd, fun t H'' s2 ht => h t _ (Same.trans' s s2) ht⟩
theorem gv_to {K : PySem.W.Frag} {H : Hp} {Q Vq : VK} {E : XK} {r : Res} (hE : E = EAns K Q) (hV : Vq = fun v H1 => [V.str "told", v].length ≤ sizeLine ∧ ∀ p, H1 p = none → Q (.ref p) (L2.upd H1 p (.tup [.str "told", v]))) (h : ∀ t H', Same H H' → ResT H' t r → Q (.ref t) H') : GvRes K H Vq E r := by
  subst hE hV
  exact gv_ans h
theorem SkyN.upd {K : PySem.W.Frag} {H0 H : Hp} {p b : Addr} {ns : List Str} {ds : List Rw} {o : HO} {ys zs : List V} (h : SkyN K H0 H p ns ds) (h0 : H0 b = some o) (hb : H b = some (.lst ys)) : SkyN K H0 (L2.upd H b (.lst zs)) p ns ds := by
  obtain ⟨dx, l, rows, a, z, c, r⟩ := h
  have nl : l ≠ b := by rintro rfl; rw [h0] at z; cases z
  have SL := SameL.upd (ys := zs) hb
  exact ⟨dx, l, rows, SL _ _ a (fun _ q => nomatch q), z, by rw [upd_ne nl]; exact c, ⟨r.l1, r.l2, fun i v e => let ⟨n, d, x, y, w⟩ := r.at_ i v e; ⟨n, d, x, y, w.monoL SL⟩⟩⟩
theorem SkyN.mono2 {K : PySem.W.Frag} {H0 H H' : Hp} {p : Addr} {ns : List Str} {ds : List Rw} (h : SkyN K H0 H p ns ds) (s : Same H H') : SkyN K H0 H' p ns ds :=
  let ⟨dx, l, rows, a, z, c, r⟩ := h; ⟨dx, l, rows, s _ _ a, z, s _ _ c, r.mono s⟩
theorem CycX.rev {K : PySem.W.Frag} {H : Hp} {xs : List V} {ds : List Rw} (h : CycX K H xs ds) : CycX K H xs.reverse ds.reverse := by
  refine ⟨by simp [h.len], fun i x e => ?_⟩
  have il := (List.getElem?_eq_some_iff.mp e).1
  rw [List.length_reverse] at il
  rw [List.getElem?_reverse il] at e
  obtain ⟨d, a, c⟩ := h.at_ _ x e
  refine ⟨d, ?_, c⟩
  rw [List.getElem?_reverse (by rw [← h.len]; exact il), ← h.len]
  exact a
section
variable {P : Program} {w : World} {K : PySem.W.Frag} {mg : Str → Option Value} {base : Heap} {k : Nat} {x : Str} {ps : List Str} {sp : Sp}
variable {nm qual : Str} {pa : Arguments} {bd : List Stmt} {sc : Scope} {dvs : List V} {kws : List (Str × V)} {fd : FuncData} {N : List Str}
theorem okFT (F : FunD K nm qual pa bd sc dvs kws (He.fAd K (x, none)) fd) (_g : mg x = some (.ref (ga K x))) (_hb : Binds K fd ps []) (S : FnScope N ps sc) (len : ∀ vs H Q E, sp vs H Q E → vs.length = ps.length)
    (hbody : ∀ (A : Around) (outer : List Env) (s : Shared) (H : Hp) (vs : List V) (Q : VK) (E : XK), Room k (A.deeper (envOfC qual sc s.heap.objs.size (ga K x) (.ref (cdD K x)))) → sp vs H Q E →
      ∃ t, PSs (cxOf (L2.CX P w) P w K mg base N qual sc (ga K x) (.ref (cdD K x)) A outer s H E).nox bd t ∧ t { nx := fun _ H' => Q .non H', rt := Q } (start N vs) H) : ∃ fd, FunD K nm qual pa bd sc dvs kws (He.fAd K (x, none)) fd ∧ FnOk P w K mg base (L2.CX P w) (k + 1) (ga K x) fd ps sp := by
  have F0 := F
  obtain ⟨oc, od, dV, kV, doc, pm, an, cdv, ct, osl, efd, lk, hcd, _, _⟩ := F.ex
  subst efd
  obtain ⟨c, rfl⟩ := He.codeIn_ref hcd
  have e : cdD K x = c := He.codeOf_eq lk rfl
  rw [e] at hbody
  refine ⟨_, F0, fn_of lk hcd S len fun A outer s H vs Q E hr hsp => ?_⟩
  obtain ⟨t, h1, h2⟩ := hbody A outer s H vs Q E hr hsp
  exact ⟨t, h1.nox, h2⟩
/-- a def's record is one -/
theorem fd_one {f : Addr} {fd2 : FuncData} (F : FunD K nm qual pa bd sc dvs kws f fd) (F2 : FunD K nm qual pa bd sc dvs kws f fd2) : fd = fd2 := by
  obtain ⟨oc, od, dV, kV, doc, pm, an, cdv, ct, osl, efd, lk, _⟩ := F.ex
  obtain ⟨oc2, od2, dV2, kV2, doc2, pm2, an2, cdv2, ct2, osl2, efd2, lk2, _⟩ := F2.ex
  rw [lk] at lk2
  cases lk2
  rfl
end
theorem call_list_ofK {X : Cx} {K : PySem.W.Frag} (hK : X.K = K) : CallR X (.type "list") (fun xs H Q => ∃ p ys, xs = [.ref p] ∧ (SqL K H p ys ∨ SqT K H p ys) ∧ ∀ l, H l = none → Q (.ref l) (upd H l (.lst ys))) := hK ▸ call_list_of
/-- what meetings wants of a list of cycles -/
theorem RuleS.ask {ds es : List Rw} {R : Rule} (h : RuleS ds R) (S : RowsS es) (e : ∀ m, Mt es m ↔ Mt ds m) : ∃ e0 er, es = e0 :: er ∧ SmallD e0 er ∧ RuleFor (Md (diffs e0 er)) R := by
  cases es with
  | nil => have := S.l2; simp at this
  | cons e0 er => exact ⟨e0, er, rfl, S.small, h.at e⟩
theorem RuleV.monoQ {H H' : Hp} {v : V} {R : Rule} {st : Addr} {c : Nat} (h : RuleV H v R) (s : SameS st H H') (hs : StoreOk H st c) : RuleV H' v R := by
  have q := s.l hs
  rcases R with _ | ⟨f, _ | I⟩
  · exact h
  · obtain ⟨t, p, e, a, b⟩ := h; exact ⟨t, p, e, q _ _ a (fun _ z => nomatch z), b.monoL q⟩
  · obtain ⟨t, p, r, e, a, b, c⟩ := h; exact ⟨t, p, r, e, q _ _ a (fun _ z => nomatch z), b.monoL q, c.monoL q⟩
end Wk
set_option maxHeartbeats 4000000
namespace Wk
open PySem PySem.Spec PyProof.Rows L2
section
variable {P : Program} {w : World} {K : PySem.W.Frag} {mg : Str → Option Value} {base : Heap}
/-! ### the law -/
def spLaw (K : PySem.W.Frag) : Sp := sp1 fun a H Q _ => ∃ l ns, a = .ref l ∧ SqL K H l (List.map V.int ns) ∧ ns.length ≤ 1000 ∧ LamX.Tabs (T3 K) H ∧ ∀ H', Q (.bl true) H'
abbrev N_law : List Str := ["_law_script", "_law_store_here", "_law_rows", "_law_moment_here", "_law_names", "_law_spot", "_law_seen_here", "_law_rule_here", "_law_ends", "_law_short", "_law_handed", "_law_k", "_law_sky", "_law_shown", "_law_given", "_law_row", "_law_cycles", "_law_due", "_law_told", "_law_again"]
theorem sc_law : FnScope N_law ["_law_script"] (defScope S_law) := ⟨rfl, rfl, rfl, by decide +kernel, rfl, by decide +kernel, by decide +kernel⟩
theorem ok_law (T : Tx K mg) (d__law_rows_right : Ok P w K mg base 6 "_law_rows_right" ["_law_sky", "_law_names", "_law_rows"] (spRowsR K)) (d_Sky_seen_from : OkM P w K mg base 7 "Sky" "seen_from" ["self", "name"] (spSeen K)) (d__law_names_right : Ok P w K mg base 12 "_law_names_right" ["_law_store_here", "_law_sky", "_law_names"] (spNamesR K)) (d__law_search_right : Ok P w K mg base 10 "_law_search_right" ["_law_cycles", "_law_seen_here", "_law_ends", "_law_due"] (spSearch K)) (d__law_meetings_due : Ok P w K mg base 5 "_law_meetings_due" ["_law_rule_here", "_law_ends"] spDue) (d__law_alike : Ok P w K mg base 4 "_law_alike" ["_law_told", "_law_due"] (spAlike K 4)) (d_meetings : Ok P w K mg base 8 "meetings" ["cycles", "span"] (spMeet K)) (d_Span_init : OkM P w K mg base 5 "Span" "__init__" ["self", "first", "last"] (spSpan K)) (d_Sky_iter : IterOk P w K mg base 1 (ga K "Sky") (He.ma K (ga K "Sky") "__iter__")) (d_names : OkP P w K mg base 1 ["self"] (spNames K)) (d_Sky_init : OkM P w K mg base 3 "Sky" "__init__" ["self", "rows"] (spSkyInit K)) (d_Cycle_init : OkM P w K mg base 4 "Cycle" "__init__" ["self", "rate", "start"] (spCyInit K)) (d__law_short_span : Ok P w K mg base 4 "_law_short_span" ["_law_store_here", "_law_seen_here", "_law_moment_here"] spShort) (d__law_plus : Ok P w K mg base 3 "_law_plus" ["_law_left", "_law_right"] (spBinL (fun x y => x + y))) (d__law_times : Ok P w K mg base 3 "_law_times" ["_law_left", "_law_right"] (spBinL (fun x y => x * y))) (d__law_whole : Ok P w K mg base 3 "_law_whole" ["_law_store_here", "_law_reach"] spWhole) (d__law_span_over : Ok P w K mg base 4 "_law_span_over" ["_law_store_here", "_law_first", "_law_interval", "_law_many_here"] spSpanOver) (d__law_many : Ok P w K mg base 3 "_law_many" ["_law_store_here", "_law_limit"] spMany) (d__law_span_row : Ok P w K mg base 5 "_law_span_row" ["_law_store_here", "_law_reach"] spSpanRow) (d__law_rule : Ok P w K mg base 4 "_law_rule" ["_law_rows"] spLawRule) (d__law_seen : Ok P w K mg base 4 "_law_seen" ["_law_rows", "_law_spot"] spSeenL) (d__law_take : Ok P w K mg base 2 "_law_take" ["_law_store_here", "_law_many_here"] spTake) (d__law_words : Ok P w K mg base 3 "_law_words" ["_law_store_here", "_law_many_here"] spWords) (d__law_sky_for : Ok P w K mg base 6 "_law_sky_for" ["_law_store_here"] spMetK) (d__law_store : Ok P w K mg base 1 "_law_store" ["_law_script"] (spStore K)) (TB : LamX.TabB base mg (cdD K "law") (tabOfD K "law")) : ∃ fd, FnP K D_law fd ∧ FnOk P w K mg base (L2.CX P w) 17 (ga K "law") fd ["_law_script"] (spLaw K) := by
  obtain ⟨fd, F⟩ := T.f_law
  have sc := sc_law
  refine okFT (F := F) T.g_law (F.bindsN fun _ _ _ _ _ _ us hl => match us, hl with | [_], _ => rfl) sc sp1_len (fun A outer s H vs Q E hr h => ?_)
  obtain ⟨u, rfl, h⟩ := h
  refine ⟨_, (pss_cons (ps_set (i := 1) sc.nd rfl (Or.inl rfl) (pe_f d__law_store (hr.mono (by decide)) rfl passL (pa_cons (pv 0) pa_nil)))
      (pss_cons (ps_asg (pe_f d__law_sky_for (hr.mono (by decide)) rfl passL (pa_cons (pv 1) pa_nil)) (pg_tup rfl (pgs_cons (pg_name (i := 2) sc.nd rfl (Or.inr rfl)) (pgs_cons (pg_name (i := 3) sc.nd rfl (Or.inl rfl)) pgs_nil))))
      (pss_cons (ps_set (i := 4) sc.nd rfl (Or.inr rfl) (pe_f d__law_words (hr.mono (by decide)) rfl passL (pa_cons (pv 1) (pa_cons (pe_callB call_len (by rfl) T.b_len PySem.boot_len (pa_cons (pv 2) pa_nil)) pa_nil))))
      (pss_cons (ps_set (i := 5) sc.nd rfl (Or.inl rfl) (pe_f d__law_take (hr.mono (by decide)) rfl passL (pa_cons (pv 1) (pa_cons (pe_callB call_len (by rfl) T.b_len PySem.boot_len (pa_cons (pv 2) pa_nil)) pa_nil))))
      (pss_cons (ps_set (i := 6) sc.nd rfl (Or.inl rfl) (pe_f d__law_seen (hr.mono (by decide)) rfl passL (pa_cons (pv 2) (pa_cons (pv 5) pa_nil))))
      (pss_cons (ps_set (i := 7) sc.nd rfl (Or.inl rfl) (pe_f d__law_rule (hr.mono (by decide)) rfl passL (pa_cons (pv 2) pa_nil)))
      (pss_cons (ps_set (i := 8) sc.nd rfl (Or.inl rfl) (pe_f d__law_span_row (hr.mono (by decide)) rfl passL (pa_cons (pv 1) (pa_cons pe_int pa_nil))))
      (pss_cons (ps_if (PW.pt (pw_and (pt_cmpR op_notN (pv 7) pe_non (nomark _)) (pw_and1 (pt_cmpR op_notN (pe_ix ix_tup (pv 7) pe_int (fun _ _ => rfl)) pe_non (nomark _))))) (pss_cons (ps_set (i := 8) sc.nd rfl (Or.inl rfl) (pe_f d__law_span_over (hr.mono (by decide)) rfl passL (pa_cons (pv 1) (pa_cons (pe_ix ix_tup (pv 7) pe_int (fun _ _ => rfl)) (pa_cons (pe_ix ix_tup (pv 7) pe_int (fun _ _ => rfl)) (pa_cons (pe_f d__law_many (hr.mono (by decide)) rfl passL (pa_cons (pv 1) (pa_cons pe_int pa_nil))) pa_nil))))))
      (pss_one (ps_set (i := 3) sc.nd rfl (Or.inl rfl) (pe_f d__law_plus (hr.mono (by decide)) rfl passL (pa_cons (pe_ix ix_tup (pv 7) pe_int (fun _ _ => rfl)) (pa_cons (pe_f d__law_times (hr.mono (by decide)) rfl passL (pa_cons (pe_ix ix_tup (pv 7) pe_int (fun _ _ => rfl)) (pa_cons (pe_tup (pa_cons (pe_f d__law_whole (hr.mono (by decide)) rfl passL (pa_cons (pv 1) (pa_cons pe_int pa_nil))) (pa_cons pe_int pa_nil))) pa_nil))) pa_nil)))))) pss_nil)
      (pss_cons (ps_set (i := 9) sc.nd rfl (Or.inl rfl) (pe_f d__law_short_span (hr.mono (by decide)) rfl passL (pa_cons (pv 1) (pa_cons (pv 6) (pa_cons (pv 3) pa_nil)))))
      (pss_cons (ps_setLc (i := 10) rfl sc.nd rfl rfl (sw_true rfl rfl rfl (by decide +kernel)) (pi_range1 (by rfl) T.b_range (pa_cons (pe_callB call_len (by rfl) T.b_len PySem.boot_len (pa_cons (pv 2) pa_nil)) pa_nil)) (blkOk_by (N := N_law) (sc := defScope S_law) (own := [("_law_k", 11)]) (by decide +kernel)) (fun _ _ _ _ _ => (pg_name (i := 11) sc.nd rfl (Or.inl rfl))) (fun _ _ _ _ _ => pts_nil) (fun _ _ _ _ _ => (pe_tup (pa_cons (pe_ix (ix_listK (K := K) rfl) (pv 4) (pv 11) (fun _ _ => rfl)) (pa_cons (pe_make T.m_Cycle d_Cycle_init.fn (hr.mono (by decide)) rfl T.g_Cycle d_Cycle_init.b .nil passL (pa_cons (pe_ix (ix_tupK (K := K) rfl) (pe_ix (ix_listK (K := K) rfl) (pv 2) (pv 11) (fun _ _ => rfl)) pe_int (fun _ _ => rfl)) (pa_cons (pe_ix (ix_tupK (K := K) rfl) (pe_ix (ix_listK (K := K) rfl) (pv 2) (pv 11) (fun _ _ => rfl)) pe_int (fun _ _ => rfl)) pa_nil))) pa_nil)))))
      (pss_cons (ps_set (i := 12) sc.nd rfl (Or.inl rfl) (pe_make T.m_Sky d_Sky_init.fn (hr.mono (by decide)) rfl T.g_Sky d_Sky_init.b .nil passL (pa_cons (pv 10) pa_nil)))
      (pss_cons (ps_expr (pe_bm0 PySem.F.plainAttrs_list PySem.F.slot_list_clear PySem.F.type_list_clear mt_clear (pv 10)))
      (pss_cons (ps_set (i := 13) sc.nd rfl (Or.inl rfl) (pe_meth (pv 12) T.c_Sky T.t_Sky_seen_from d_Sky_seen_from.fn (hr.mono (by decide)) d_Sky_seen_from.b .nil passL (pa_cons (pe_ix ix_list (pv 4) (pv 5) (fun _ _ => rfl)) pa_nil)))
      (pss_cons (ps_if (PW.pt (pw_or (pt_not (pt_val (pe_f d__law_rows_right (hr.mono (by decide)) rfl passL (pa_cons (pv 13) (pa_cons (pv 4) (pa_cons (pv 6) pa_nil)))))) (pw_or1 (pt_not (pt_val (pe_f d__law_rows_right (hr.mono (by decide)) rfl passL (pa_cons (pv 12) (pa_cons (pv 4) (pa_cons (pv 2) pa_nil))))))))) (pss_one (ps_ret pe_bl)) pss_nil)
      (pss_cons (ps_expr (pe_bm PySem.F.plainAttrs_list PySem.F.slot_list_append PySem.F.type_list_append mt_append (pe_prop (pv 13) T.c_Sky T.q_names d_names.fn (hr.mono (by decide)) d_names.b .nil passL rfl) (pa_cons pe_str pa_nil)))
      (pss_cons (ps_expr (pe_bm0 PySem.F.plainAttrs_list PySem.F.slot_list_clear PySem.F.type_list_clear mt_clear (pe_prop (pv 12) T.c_Sky T.q_names d_names.fn (hr.mono (by decide)) d_names.b .nil passL rfl)))
      (pss_cons (ps_set (i := 14) sc.nd rfl (Or.inr rfl) (pe_revL (pe_lc rfl sc.nd (pi_own (pv 12) T.t_Sky_iter.at_ T.t_Sky_iter.fn d_Sky_iter (hr.mono (by decide))) (blkOk_by (N := N_law) (sc := defScope S_law) (own := [("_law_row", 15)]) (by decide +kernel)) (fun _ _ _ _ _ => (pg_name (i := 15) sc.nd rfl (Or.inl rfl))) (fun _ _ _ _ _ => pts_nil) (fun _ _ _ _ _ => (pe_ix (ix_tupK (K := K) rfl) (pv 15) pe_int (fun _ _ => rfl))))))
      (pss_cons (ps_set (i := 16) sc.nd rfl (Or.inr rfl) (pe_lc rfl sc.nd (pi_own (pv 13) T.t_Sky_iter.at_ T.t_Sky_iter.fn d_Sky_iter (hr.mono (by decide))) (blkOk_by (N := N_law) (sc := defScope S_law) (own := [("_law_row", 15)]) (by decide +kernel)) (fun _ _ _ _ _ => (pg_name (i := 15) sc.nd rfl (Or.inl rfl))) (fun _ _ _ _ _ => pts_nil) (fun _ _ _ _ _ => (pe_ix (ix_tupK (K := K) rfl) (pv 15) pe_int (fun _ _ => rfl)))))
      (pss_cons (ps_for PassesOwn.never rfl (pi_list (pe_lst (pa_cons (pv 8) (pa_cons (pv 9) pa_nil)))) (pg_name (i := 15) sc.nd rfl (Or.inr rfl)) (pss_cons (ps_set (i := 17) sc.nd rfl (Or.inl rfl) (pe_f d__law_meetings_due (hr.mono (by decide)) rfl passL (pa_cons (pv 7) (pa_cons (pv 15) pa_nil))))
      (pss_cons (ps_set (i := 18) sc.nd rfl (Or.inl rfl) (pe_ans (k := 14) T (.inr (.inr rfl)) rfl TB rfl rfl (hr.mono (by decide)) (LamX.lamS_by (sc := defScope S_law) (by decide +kernel)) rfl (fun _ _ _ _ _ => rfl) (fun A outer s H E f c' hrL => (pe_f d_meetings (hrL.mono (by decide)) rfl (passes_call (takes_of rfl rfl rfl rfl) fun _ _ _ _ z => z) (pa_cons (pe_callTy (T := "list") (call_list_ofK (K := K) rfl) (by rfl) T.b_list (by decide +kernel) (pa_cons (pv 14) pa_nil)) (pa_cons (pe_make T.m_Span d_Span_init.fn (hrL.mono (by decide)) rfl T.g_Span d_Span_init.b .nil (passes_call (takes_of rfl rfl rfl rfl) fun _ _ _ _ z => z) (pa_cons (pe_ix (ix_tupK (K := K) rfl) (pv 15) pe_int (fun _ _ => rfl)) (pa_cons (pe_ix (ix_tupK (K := K) rfl) (pv 15) pe_int (fun _ _ => rfl)) pa_nil))) pa_nil))))))
      (pss_cons (ps_set (i := 19) sc.nd rfl (Or.inl rfl) (pe_ans (k := 14) T (.inr (.inr rfl)) rfl TB rfl rfl (hr.mono (by decide)) (LamX.lamS_by (sc := defScope S_law) (by decide +kernel)) rfl (fun _ _ _ _ _ => rfl) (fun A outer s H E f c' hrL => (pe_f d_meetings (hrL.mono (by decide)) rfl (passes_call (takes_of rfl rfl rfl rfl) fun _ _ _ _ z => z) (pa_cons (pe_callTy (T := "list") (call_list_ofK (K := K) rfl) (by rfl) T.b_list (by decide +kernel) (pa_cons (pv 16) pa_nil)) (pa_cons (pe_make T.m_Span d_Span_init.fn (hrL.mono (by decide)) rfl T.g_Span d_Span_init.b .nil (passes_call (takes_of rfl rfl rfl rfl) fun _ _ _ _ z => z) (pa_cons (pe_ix (ix_tupK (K := K) rfl) (pv 15) pe_int (fun _ _ => rfl)) (pa_cons (pe_ix (ix_tupK (K := K) rfl) (pv 15) pe_int (fun _ _ => rfl)) pa_nil))) pa_nil))))))
      (pss_one (ps_if (PW.pt (pw_or (pt_not (pt_val (pe_f d__law_alike (hr.mono (by decide)) rfl passL (pa_cons (pv 18) (pa_cons (pv 17) pa_nil))))) (pw_or1 (pt_not (pt_val (pe_f d__law_alike (hr.mono (by decide)) rfl passL (pa_cons (pv 19) (pa_cons (pv 17) pa_nil)))))))) (pss_one (ps_ret pe_bl)) pss_nil))))))
      (pss_cons (ps_if (pt_not (pt_val (pe_f d__law_search_right (hr.mono (by decide)) rfl passL (pa_cons (pv 16) (pa_cons (pv 6) (pa_cons (pv 9) (pa_cons (pe_f d__law_meetings_due (hr.mono (by decide)) rfl passL (pa_cons (pv 7) (pa_cons (pv 9) pa_nil))) pa_nil))))))) (pss_one (ps_ret pe_bl)) pss_nil)
      (pss_cons (ps_if (pt_not (pt_val (pe_f d__law_names_right (hr.mono (by decide)) rfl passL (pa_cons (pv 1) (pa_cons (pv 12) (pa_cons (pv 4) pa_nil)))))) (pss_one (ps_ret pe_bl)) pss_nil)
      (pss_one (ps_ret (pe_and (pe_f d__law_rows_right (hr.mono (by decide)) rfl passL (pa_cons (pv 12) (pa_cons (pv 4) (pa_cons (pv 2) pa_nil)))) (pe_one (pe_f d__law_rows_right (hr.mono (by decide)) rfl passL (pa_cons (pe_meth (pv 12) T.c_Sky T.t_Sky_seen_from d_Sky_seen_from.fn (hr.mono (by decide)) d_Sky_seen_from.b .nil passL (pa_cons (pe_ix ix_list (pv 4) (pv 5) (fun _ _ => rfl)) pa_nil)) (pa_cons (pv 4) (pa_cons (pv 6) pa_nil))))))))))))))))))))))))))))), ?_⟩
  obtain ⟨l, ns, rfl, hl, hn, hT, h⟩ := h
  refine ⟨_, rfl, _, rfl, l, ns, rfl, hl, hn, fun st H1 s1 hs1 => ?_⟩
  refine ⟨_, rfl, _, rfl, st, 0, rfl, hs1, by omega, fun lr xr ds t pm x H2 s2 hs2 own2 hlr hxr hD hpm bm ht => ?_⟩
  refine ⟨t, _, rfl, SqT.of ht, rfl, _, _, rfl, _, _, rfl, rfl, ?_⟩
  have xl := hxr.len
  have d2 := hD.1
  have d6 := hD.2.1
  have RS := RowsS.of hD
  have T2 : LamX.Tabs (T3 K) H2 := tabs_monoS (hT.ext s1) hs1 s2
  refine ⟨_, rfl, _, rfl, _, _, rfl, lenL hlr, _, _, rfl, st, _, xr.length, rfl, rfl, hs2, by omega, by omega, fun ln nms H3 s3 hs3 own3 hln nl hok => ?_⟩
  have hlr3 := s3.keep _ _ own2.ne hlr
  have hxr3 := hxr.monoL (s3.l hs2)
  have hpm3 : FrV H3 (.ref pm) x := FrV.monoL ⟨pm, rfl, hpm⟩ (s3.l hs2)
  refine ⟨_, rfl, _, rfl, _, _, rfl, lenL hlr3, _, _, rfl, st, _, _, rfl, rfl, hs3, by omega, by omega, fun k H4 s4 hs4 k0 k1 => ?_⟩
  have hlr4 := s4.keep _ _ own2.ne hlr3
  have hxr4 := hxr3.monoL (s4.l hs3)
  have hpm4 := hpm3.monoL (s4.l hs3)
  have hln4 := s4.keep _ _ own3.ne hln
  have T4 : LamX.Tabs (T3 K) H4 := tabs_monoS (tabs_monoS T2 hs2 s3) hs3 s4
  obtain ⟨j, rfl⟩ : ∃ j : Nat, k = (j : Int) := ⟨k.toNat, by omega⟩
  have jl : j < ds.length := by omega
  obtain ⟨m, hm⟩ : ∃ m, ds[j]? = some m := ⟨_, List.getElem?_eq_getElem jl⟩
  have hmem := List.mem_of_getElem? hm
  refine ⟨_, rfl, _, rfl, _, _, rfl, lr, xr, ds, j, m, rfl, rfl, hlr4, hxr4, d6, hm, fun d hd => ⟨(RS.big d hd).1.mono (by decide), (RS.big d hd).2.mono (by decide), (RS.big d hd).2.mono (by decide)⟩, fun ls ys H5 s5 hls0 hls hys => ?_⟩
  have nls : ls ≠ st := hs4.ne hls0
  obtain ⟨d0, dr, rfl⟩ : ∃ d0 dr, ds = d0 :: dr := by
    cases ds with
    | nil => simp at d2
    | cons d0 dr => exact ⟨d0, dr, rfl⟩
  have hlr5 := s5 _ _ hlr4
  have hxr5 := hxr4.mono s5
  refine ⟨_, rfl, _, rfl, lr, xr, d0, dr, rfl, hlr5, hxr5, by simp at d6; omega, fun d hd => ⟨(RS.big d hd).1.mono (by decide), (RS.big d hd).2.mono (by decide)⟩, fun d hd => ⟨(RS.diff d hd).1.sz (by decide), (RS.diff d hd).2⟩, fun R rv H6 s6 hR hrv => ?_⟩
  have RR := RuleS.of RS hR
  have s46 := Same.trans' s5 s6
  have hs6 := hs4.same s46
  refine ⟨_, rfl, _, _, rfl, st, _, rfl, rfl, hs6, by omega, fun a b te H7 s7 hs7 sab hte => ?_⟩
  -- the span, the moment
  dsimp only
  refine seq_intro (fun σ' H' => ∃ (a b x' : Rat) (te : Addr) (mv : V), σ' = [some (.ref l), some (.ref st), some (.ref lr), some mv, some (.ref ln), some (.int (j : Int)), some (.ref ls), some rv, some (.ref te), none, none, none, none, none, none, none, none, none, none, none] ∧ SameS st H7 H' ∧ StoreOk H' st 1000 ∧
    PairV H' (.ref te) (a, b) ∧ a ≤ b ∧ Sz 600 a ∧ Sz 600 b ∧ (∀ f I, R = some (f, some I) → -1000000144 ≤ a ∧ b ≤ 1000000144) ∧ FrV H' mv x' ∧ Sz 250 x' ∧ -1000000000 ≤ x' ∧ x' ≤ 1000000000) (fun Rk hRk => ?_) ?_
  · have sm := s46
    have hm7 := (hpm4.mono s46).monoL (s7.l hs6)
    have hrv7 : RuleV H7 rv R := hrv.monoQ s7 hs6
    have bx : Sz 250 x := Sz.mono (n := 8) bm (by decide)
    have mx := mom_all bm
    obtain ⟨ab, sa, sb⟩ := span_all sab (by decide)
    rcases R with _ | ⟨f, _ | I⟩
    · have : rv = .non := hrv7
      subst this
      exact ⟨_, rfl, rfl, _, rfl, hRk _ _ ⟨a, b, x, te, _, rfl, SameS.rfl', hs7.le (by omega), hte, ab, sa, sb, (fun f I e => nomatch e), hm7, bx, mx⟩⟩
    · obtain ⟨t7, p7, rfl, ht7, fp7⟩ := hrv7
      exact ⟨_, rfl, rfl, _, rfl, _, rfl, t7, _, _, _, rfl, rfl, sqT1 ht7, at_1, rfl, _, rfl, hRk _ _ ⟨a, b, x, te, _, rfl, SameS.rfl', hs7.le (by omega), hte, ab, sa, sb, (fun f I e => nomatch e), hm7, bx, mx⟩⟩
    · obtain ⟨t7, p7, q7, rfl, ht7, fp7, fq7⟩ := hrv7
      obtain ⟨sf, sI, i8, i1⟩ := RR.sz f I rfl
      obtain ⟨pI, f0, f1, _⟩ := RR.mt
      obtain ⟨q7, rfl, hq7⟩ := fq7
      refine ⟨_, rfl, rfl, _, rfl, _, rfl, t7, _, _, _, rfl, rfl, sqT1 ht7, at_1, rfl, _, rfl, ?_⟩
      refine ⟨_, rfl, _, rfl, t7, _, _, _, rfl, rfl, sqT1 ht7, at_0, _, rfl, t7, _, _, _, rfl, rfl, sqT1 ht7, at_1, _, rfl, _, _, rfl, st, _, rfl, rfl, hs7, by omega, fun z H8 s8 hs8 z0 z1 => ?_⟩
      have q8 := s8.l hs7
      refine ⟨_, _, _, _, rfl, st, _, f, I, z, rfl, rfl, hs8, by omega, fp7.monoL q8, FrV.monoL ⟨q7, rfl, hq7⟩ q8, sf, sI, pI, z0, z1, f0, f1, i1, fun a9 b9 te9 H9 s9 hs9 sab9 ⟨lo9, hi9⟩ hte9 => ?_⟩
      have s79 := s8.trans s9
      have q9 := s79.l hs7
      have ht9 : H9 t7 = _ := q9 _ _ ht7 (fun _ z => nomatch z)
      refine ⟨_, rfl, t7, _, _, _, rfl, rfl, sqT1 ht9, at_0, _, rfl, t7, _, _, _, rfl, rfl, sqT1 ht9, at_1, _, rfl, _, _, rfl, st, _, 6, rfl, rfl, hs9, by omega, by decide, by decide, fun k H10 s10 hs10 k0 k1 => ⟨line2, fun r1 hr1 => ?_⟩⟩
      have s70 := s79.trans s10
      have q10 := s70.l hs7
      have n1 := same_new (o := frO (k : Rat)) hr1
      have zk : Sz 3 (k : Rat) := Sz.int (by omega) (by decide)
      have zm := sI.mul zk
      refine ⟨_, _, rfl, I, (k : Rat), (FrV.monoL ⟨q7, rfl, hq7⟩ q10).mono n1, ⟨r1, rfl, upd_same⟩, sI.mono (by decide), zk.mono (by decide), fun r2 hr2 => ?_⟩
      have n2 := Same.new (o := frO (I * (k : Rat))) n1 hr2
      refine ⟨_, _, rfl, f, I * (k : Rat), (fp7.monoL q10).mono n2, ⟨r2, rfl, upd_same⟩, sf.mono (by decide), zm.mono (by decide), fun r3 hr3 => ?_⟩
      have n3 := Same.new (o := frO (f + I * (k : Rat))) n2 hr3
      obtain ⟨rm1, rm2, rm3⟩ := rule_moment sf sI f0 f1 i1 k0 k1
      obtain ⟨ab9, sa9, sb9⟩ := span_all sab9 (by decide)
      refine hRk _ _ ⟨a9, b9, f + I * (k : Rat), te9, .ref r3, rfl, s70.trans (SameS.of n3), (hs10.same n3).le (by omega), (hte9.monoL (s10.l hs9)).mono n3, ab9, sa9, sb9, fun f' I' e => ⟨?_, ?_⟩, ⟨r3, rfl, upd_same⟩, rm1, rm2, rm3⟩
      · grind
      · grind
  rintro σ' H8 ⟨a, b, x, te, mv, rfl, s8, hs8, hte, ab, sa, sb, lim, hmv, bx, mx0, mx1⟩
  try dsimp only
  have RSs := RS.seen hmem
  have hs5 := hs4.same s5
  have s58 : SameS st H5 H8 := (SameS.of s6).trans (s7.trans s8)
  have q58 := s58.l hs5
  have hls8 := s58.keep _ _ nls hls
  have hys8 := hys.monoL q58
  have hlr8 := s58.keep _ _ own2.ne hlr5
  have hxr8 := hxr5.monoL q58
  have hln8 := s58.keep _ _ own3.ne (s5 _ _ hln4)
  have hrv8 : RuleV H8 rv R := hrv.monoQ (s7.trans s8) hs6
  have T8 : LamX.Tabs (T3 K) H8 := tabs_monoS (T4.ext s46) hs6 (s7.trans s8)
  have dl : ((d0 :: dr).map (subRow m)).length = (d0 :: dr).length := List.length_map ..
  refine ⟨_, rfl, _, rfl, _, rfl, _, _, _, rfl, st, _, ls, ys, _, x, rfl, hs8, by omega, rfl, hls8, hys8, by omega, fun d hd => (RSs.big d hd).1.mono (by decide), hmv, bx, mx0, mx1, fun a2 b2 tsh H9 s9 hs9 sab2 ⟨lo2, hi2⟩ h24 htsh => ?_⟩
  obtain ⟨ab2, sa2, sb2⟩ := span_all sab2 (by decide)
  have q9 := s9.l hs8
  have hls9 := s9.keep _ _ nls hls8
  have hys9 := hys8.monoL q9
  have hlr9 := s9.keep _ _ own2.ne hlr8
  have hxr9 := hxr8.monoL q9
  have hln9 := s9.keep _ _ own3.ne hln8
  have hrv9 : RuleV H9 rv R := hrv8.monoQ s9 hs8
  have T9 : LamX.Tabs (T3 K) H9 := tabs_monoS T8 hs8 s9
  have hte9 := hte.monoL q9
  clear q9 q58 hls8 hys8 hlr8 hxr8 hln8 hrv8 T8 hte
  have n8 : nms.length ≤ 8 := by omega
  -- the sky
  refine ⟨_, rfl, _, _, rfl, lenL hlr9, _, rfl, by omega, by omega, fun D hD => ?_⟩
  refine lc_mapR (R := fun i y Hx => ∃ n d, nms[i]? = some n ∧ (d0 :: dr)[i]? = some d ∧ RowV K Hx y n d) (fun i y Ha Hb s ⟨n, d, a, b, c⟩ => ⟨n, d, a, b, c.monoL s⟩) hD (line400 (by omega)) (fun i Hx hi sx k hk => ?_) (fun H10 zs s10 hz hzn hzr => ?_)
  · have hi : i < xr.length := by omega
    have ex : xr[i]? = some (xr[i]'hi) := List.getElem?_eq_getElem _
    obtain ⟨d, hdi, t2, p2, q2, ev2, ht2, fp2, fq2⟩ := hxr9.at_ i _ ex
    rw [ev2] at ex
    obtain ⟨n, hni⟩ : ∃ n, nms[i]? = some n := ⟨_, List.getElem?_eq_getElem (by omega)⟩
    have eyn : (List.map V.str nms)[i]? = some (.str n) := by rw [List.getElem?_map, hni]; rfl
    refine ⟨rfl, _, rfl, _, rfl, ln, _, _, _, rfl, rfl, SqL.of (sx _ _ hln9), at0 eyn, _, rfl, _, rfl, lr, xr, _, _, rfl, rfl, SqL.of (sx _ _ hlr9), at0 ex, t2, _, _, _, rfl, rfl, SqT.of (sx _ _ ht2), at_0, _, rfl, _, rfl, lr, xr, _, _, rfl, rfl, SqL.of (sx _ _ hlr9), at0 ex, t2, _, _, _, rfl, rfl, SqT.of (sx _ _ ht2), at_1, ?_⟩
    intro xc dc hxc hdc hne
    have mk := same_made (o := .ins (ga K "Cycle") dc []) (o' := .own xc) hxc hdc
    have pl := RS.pl d (List.mem_of_getElem? hdi)
    refine ⟨_, _, _, rfl, xc, dc, d, rfl, upd_same, (fp2.mono sx).mono mk, (fq2.mono sx).mono mk, pl.1, pl.2, fun H6 sx6 hc6 => ⟨rfl, line2, fun t ht => ?_⟩⟩
    have md := made hxc hdc sx6
    exact hk _ _ (Same.new md ht) ⟨n, d, hni, hdi, t, xc, rfl, upd_same, hc6.mono (same_new ht)⟩
  have rvs : RowsV K H10 zs nms (d0 :: dr) := ⟨by omega, by omega, hzr⟩
  refine ⟨_, rfl, ?_⟩
  intro p dxs hxs hds hne
  have mk := same_made (o := .ins (ga K "Sky") dxs []) (o' := .own p) hxs hds
  refine ⟨_, _, rfl, p, dxs, D, zs, nms, _, rfl, upd_same, rfl, mk _ _ hz, by omega, rvs.mono mk, hok, fun H11 sx11 hN => ⟨rfl, ?_⟩⟩
  have md := made hxs hds sx11
  have hD11 := md _ _ hz
  have s11 : Same H9 H11 := Same.trans' s10 md
  refine ⟨_, rfl, tyL hD11, D, _, rfl, rfl, hD11, ?_⟩
  have hN12 := hN.upd (zs := []) (mk _ _ hz) hD11
  have s12 : Same H9 (L2.upd H11 D (.lst [])) := Same.own hD s11
  generalize hH12 : L2.upd H11 D (.lst []) = H12 at *
  clear hN hD11 s11 md sx11 rvs hzr hz s10
  have hls12 := s12 _ _ hls9
  have hys12 := hys9.mono s12
  have hlr12 := s12 _ _ hlr9
  have hxr12 := hxr9.mono s12
  have hln12 := s12 _ _ hln9
  have hsky12 := hN12.a
  obtain ⟨n, hni⟩ : ∃ n, nms[j]? = some n := ⟨_, List.getElem?_eq_getElem (by omega)⟩
  have eyn : (List.map V.str nms)[j]? = some (.str n) := by rw [List.getElem?_map, hni]; rfl
  have nok := hok.ok n (List.mem_of_getElem? hni)
  have hbig : ∀ d ∈ d0 :: dr, Big d.1 ∧ Big d.2 := fun d hd => ⟨(RS.big d hd).1.mono (by decide), (RS.big d hd).2.mono (by decide)⟩
  -- the sky that is seen
  obtain ⟨dx12, l12, rows12, hp12, _⟩ := id hsky12
  refine ⟨_, rfl, p, dx12, _, rfl, hp12, rfl, _, rfl, _, rfl, ln, _, _, _, rfl, rfl, SqL.of hln12, atI_nat eyn, _, _, rfl, p, nms, _, rfl, hsky12, hok, n8, hbig, .inl ⟨n, rfl, nameOk_line nok⟩, fun e => ?_, fun _ => ⟨n, rfl, .inr ⟨j, m, hni, hm, fun q H13 s13 hq => ?_⟩⟩⟩
  · rw [show fitsB (.str n) = nameOk n from rfl, nok] at e; cases e
  have hls13 := s13 _ _ hls12
  have hys13 := hys12.mono s13
  have hlr13 := s13 _ _ hlr12
  have hxr13 := hxr12.mono s13
  have hln13 := s13 _ _ hln12
  have hsky13 := hsky12.mono s13
  refine ⟨_, rfl, _, rfl, _, rfl, _, _, _, rfl, q, nms, _, ln, ls, ys, rfl, hq.a, rfl, hln13, rfl, hls13, hys13, hok, n8, RSs.pl, fun H14 s14 => ⟨true, rfl, iteF ?_⟩⟩
  refine ⟨_, rfl, _, rfl, _, rfl, _, _, _, rfl, p, nms, _, ln, lr, xr, rfl, hsky13.mono s14, rfl, s14 _ _ hln13, rfl, s14 _ _ hlr13, hxr13.mono s14, hok, n8, RS.pl, fun H15 s15 => ⟨true, rfl, iteF ?_⟩⟩
  have s35 := Same.trans' s14 s15
  have hsh15 := hq.a.mono s35
  -- the lists of names that are changed
  obtain ⟨dx15, l15, rows15, hp15, _⟩ := id hsh15
  refine ⟨_, rfl, q, dx15, _, rfl, hp15, _, rfl, q, nms, _, rfl, hsh15, n8, fun l2 H16 s16 hn2 hl2 => ⟨tyL hl2, l2, _, _, rfl, rfl, hl2, ?_, ?_⟩⟩
  · exact Nat.lt_of_le_of_lt (show _ ≤ 8 by simpa using n8) (by decide)
  have s17 := Same.own (o := .lst (List.map V.str nms ++ [V.str "a"])) hn2 s16
  generalize hH17 : L2.upd H16 l2 (.lst (List.map V.str nms ++ [V.str "a"])) = H17 at *
  have hsky17 := (hsky13.mono s35).mono s17
  obtain ⟨dx17, l17, rows17, hp17, _⟩ := id hsky17
  refine ⟨_, rfl, p, dx17, _, rfl, hp17, _, rfl, p, nms, _, rfl, hsky17, n8, fun l3 H18 s18 hn3 hl3 => ⟨tyL hl3, l3, _, rfl, rfl, hl3, ?_⟩⟩
  have s19 := Same.own (o := .lst []) hn3 s18
  generalize hH19 : L2.upd H18 l3 (.lst []) = H19 at *
  have s139 := Same.trans' s35 (Same.trans' s17 s19)
  clear hls12 hys12 hlr12 hxr12 hln12 hsky12
  have hsky19 := hsky17.mono s19
  have hsh19 := hsh15.mono (Same.trans' s17 s19)
  -- the cycles of both
  obtain ⟨dxg, lg0, rowsg, hpg, hlg0, rvg⟩ := id hsky19
  have rvg2 := rvg.l2
  refine ⟨_, rfl, p, dxg, _, lg0, rowsg, rfl, hpg, rfl, SqL.of hlg0, fun D1 hD1 => ?_⟩
  refine lc_mapL (R := fun i y Hx => ∃ d, (d0 :: dr)[i]? = some d ∧ CycV K Hx y d) (xs := rowsg) (fun i y Ha Hb s ⟨d, a, b⟩ => ⟨d, a, b.monoL s⟩) hlg0 hD1 (line400 (by omega)) (fun i v Hx hi sx k hk => ?_) (fun H20 gs s20 hg hgn hgr => ?_)
  · obtain ⟨n', d, _, hd, t, c, rfl, ht, hc⟩ := rvg.at_ i v hi
    exact ⟨rfl, _, rfl, t, _, _, _, rfl, rfl, SqT.of (sx _ _ ht), at_1, hk _ _ Same.rfl' ⟨d, hd, c, rfl, hc.mono sx⟩⟩
  have cg : CycX K H20 gs (d0 :: dr) := ⟨by omega, hgr⟩
  refine ⟨D1, gs, rfl, SqL.of hg, fun lg hlg => ?_⟩
  have n21 := same_new (o := .lst gs.reverse) hlg
  have s21 := Same.trans' s20 n21
  have hlg21 := upd_same (H := H20) (a := lg) (o := .lst gs.reverse)
  have cg21 := cg.rev.mono n21
  generalize hH21 : L2.upd H20 lg (.lst gs.reverse) = H21 at *
  have hsh21 := hsh19.mono s21
  obtain ⟨dxc, lc0, rowsc, hpc, hlc0, rvc⟩ := id hsh21
  have rvc2 := rvc.l2
  refine ⟨_, rfl, q, dxc, _, lc0, rowsc, rfl, hpc, rfl, SqL.of hlc0, fun lc hlc => ?_⟩
  refine lc_mapL (R := fun i y Hx => ∃ d, ((d0 :: dr).map (subRow m))[i]? = some d ∧ CycV K Hx y d) (xs := rowsc) (fun i y Ha Hb s ⟨d, a, b⟩ => ⟨d, a, b.monoL s⟩) hlc0 hlc (line400 (by omega)) (fun i v Hx hi sx k hk => ?_) (fun HB cs sB hcs hcn hcr => ?_)
  · obtain ⟨n', d, _, hd, t, c, rfl, ht, hc⟩ := rvc.at_ i v hi
    exact ⟨rfl, _, rfl, t, _, _, _, rfl, rfl, SqT.of (sx _ _ ht), at_1, hk _ _ Same.rfl' ⟨d, hd, c, rfl, hc.mono sx⟩⟩
  have cc : CycX K HB cs ((d0 :: dr).map (subRow m)) := ⟨by omega, hcr⟩
  refine ⟨_, rfl, _, rfl, line2, fun L hL => ⟨L, rfl, ⟨_, SqL.of upd_same⟩, ?_⟩⟩
  have nL := same_new (o := .lst [.ref te, .ref tsh]) hL
  have hLL := upd_same (H := HB) (a := L) (o := .lst [.ref te, .ref tsh])
  have sBL := Same.trans' sB nL
  have s19L := Same.trans' s21 sBL
  have s13L := Same.trans' s139 s19L
  have s9L := Same.trans' (Same.trans' s12 s13) s13L
  have hcsL := nL _ _ hcs
  have ccL := cc.mono nL
  have hlgL := sBL _ _ hlg21
  have cgL := cg21.mono sBL
  have hskyL := hsky19.mono s19L
  have hlsL := s13L _ _ hls13
  have hysL := hys13.mono s13L
  have hlrL := s13L _ _ hlr13
  have hxrL := hxr13.mono s13L
  have hlnL := s13L _ _ hln13
  have hrvL := hrv9.mono s9L
  have hteL := hte9.mono s9L
  have htshL := htsh.mono s9L
  have hsL := hs9.same s9L
  have TL := T9.ext s9L
  generalize hHL : L2.upd HB L (.lst [.ref te, .ref tsh]) = HL at *
  have pre1 := RR.due ab lim
  have pre2 := RR.due ab2 (fun _ _ _ => ⟨lo2, hi2⟩)
  have pairs : ∀ (i : Nat) (x : V), [V.ref te, V.ref tsh][i]? = some x → ∃ t a b, x = .ref t ∧ PairV HL x (a, b) ∧ DuePre R a b ∧ Sz 600 a ∧ Sz 600 b ∧ a ≤ b := fun i x hx => by
    match i, hx with
    | 0, hx => cases hx; exact ⟨te, a, b, rfl, hteL, pre1, sa, sb, ab⟩
    | 1, hx => cases hx; exact ⟨tsh, a2, b2, rfl, htshL, pre2, sa2, sb2, ab2⟩
  obtain ⟨e0, er, ee, sde, rfe⟩ := RR.ask (RS.mem (es := (d0 :: dr).reverse) (fun d => List.mem_reverse) (List.length_reverse ..)) (mt_mem fun d => List.mem_reverse)
  obtain ⟨u0, ur, eu, sdu, rfu⟩ := RR.ask RSs (fun x => mt_seen x)
  rw [ee] at cgL
  have ccU := ccL
  rw [eu] at ccU
  -- both spans
  refine for_list (xs := [.ref te, .ref tsh]) (fun i σ H' => ∃ o11 o15 o17 o18 o19, σ = [some (.ref l), some (.ref st), some (.ref lr), some mv, some (.ref ln), some (.int (j : Int)), some (.ref ls), some rv, some (.ref te), some (.ref tsh), some (.ref D), o11, some (.ref p), some (.ref q), some (.ref lg), o15, some (.ref lc), o17, o18, o19] ∧ LamX.ExtN HL H' ∧ LamX.Tabs (T3 K) H') ?_ ?_ ?_ ?_
  · exact ⟨_, _, _, _, _, rfl, LamX.ExtN.refl _, TL⟩
  · rintro i σ H' _ ⟨o11, o15, o17, o18, o19, rfl, e, _⟩
    exact SqL.of (e _ _ hLL (fun _ z => nomatch z))
  · rintro i x σ H1 hi ⟨o11, o15, o17, o18, o19, rfl, e1, T1⟩
    obtain ⟨t, a', b', rfl, hp, pre, sa', sb', ab'⟩ := pairs i x hi
    refine ⟨_, rfl, _, rfl, _, _, rfl, R, a', b', hrvL.monoE e1, hp.monoE e1, pre, sa', sb', fun td H2 s2 hdue => ?_⟩
    have T2' := T1.ext s2
    have e2 := e1.trans (extS s2)
    try dsimp only
    refine seq_intro (fun σ' H' => ∃ tt : Addr, σ' = [some (.ref l), some (.ref st), some (.ref lr), some mv, some (.ref ln), some (.int (j : Int)), some (.ref ls), some rv, some (.ref te), some (.ref tsh), some (.ref D), o11, some (.ref p), some (.ref q), some (.ref lg), some (.ref t), some (.ref lc), some (.ref td), some (.ref tt), o19] ∧ LamX.ExtN H2 H' ∧ LamX.Tabs (T3 K) H' ∧ ResT H' tt (dueRes R a' b')) (fun Rk hRk => ?_) ?_
    · refine ⟨T2', fun H3 e3 T3' => ?_⟩
      have E3 := e2.trans e3
      have hl3 := E3 _ _ hlgL (fun _ z => nomatch z)
      obtain ⟨t', p1, q1, et, ht1, fp1, fq1⟩ := hp.monoE E3
      cases et
      refine ⟨_, rfl, _, _, rfl, .inl (SqL.of hl3), fun y2 hy2 => ?_⟩
      have n2 := same_new (o := .lst gs.reverse) hy2
      refine ⟨_, rfl, t, _, _, _, rfl, rfl, SqT.of (n2 _ _ ht1), at_0, _, rfl, t, _, _, _, rfl, rfl, SqT.of (n2 _ _ ht1), at_1, ?_⟩
      intro xs_ dxs hxs_ hdxs_ hne_
      have mk := same_made (o := .ins (ga K "Span") dxs []) (o' := .own xs_) hxs_ hdxs_
      refine ⟨_, _, _, rfl, xs_, dxs, a', b', rfl, upd_same, (fp1.mono n2).mono mk, (fq1.mono n2).mono mk, sa'.mono (by decide), sb'.mono (by decide), ab', fun H4 sx hsp => ⟨rfl, ?_⟩⟩
      have n4 := made hxs_ hdxs_ sx
      have n24 := Same.trans' n2 n4
      exact ⟨_, _, rfl, y2, _, e0, er, R, a', b', rfl, n4 _ _ upd_same, (cgL.monoE E3).mono n24, sde, rfe, RR.rsz, hsp, sa', sb', gv_to rfl rfl fun tt H' s' hres => hRk _ _ ⟨tt, rfl, e3.trans (extS (Same.trans' n24 s')), T3'.ext (Same.trans' n24 s'), hres⟩⟩
    rintro σ' H4 ⟨tt, rfl, e4, T4', hres1⟩
    have e24 := e2.trans e4
    try dsimp only
    refine seq_intro (fun σ' H' => ∃ tu : Addr, σ' = [some (.ref l), some (.ref st), some (.ref lr), some mv, some (.ref ln), some (.int (j : Int)), some (.ref ls), some rv, some (.ref te), some (.ref tsh), some (.ref D), o11, some (.ref p), some (.ref q), some (.ref lg), some (.ref t), some (.ref lc), some (.ref td), some (.ref tt), some (.ref tu)] ∧ LamX.ExtN H4 H' ∧ LamX.Tabs (T3 K) H' ∧ ResT H' tu (dueRes R a' b')) (fun Rk hRk => ?_) ?_
    · refine ⟨T4', fun H3 e3 T3' => ?_⟩
      have E3 := e24.trans e3
      have hl3 := E3 _ _ hcsL (fun _ z => nomatch z)
      obtain ⟨t', p1, q1, et, ht1, fp1, fq1⟩ := hp.monoE E3
      cases et
      refine ⟨_, rfl, _, _, rfl, .inl (SqL.of hl3), fun y2 hy2 => ?_⟩
      have n2 := same_new (o := .lst cs) hy2
      refine ⟨_, rfl, t, _, _, _, rfl, rfl, SqT.of (n2 _ _ ht1), at_0, _, rfl, t, _, _, _, rfl, rfl, SqT.of (n2 _ _ ht1), at_1, ?_⟩
      intro xs_ dxs hxs_ hdxs_ hne_
      have mk := same_made (o := .ins (ga K "Span") dxs []) (o' := .own xs_) hxs_ hdxs_
      refine ⟨_, _, _, rfl, xs_, dxs, a', b', rfl, upd_same, (fp1.mono n2).mono mk, (fq1.mono n2).mono mk, sa'.mono (by decide), sb'.mono (by decide), ab', fun H4 sx hsp => ⟨rfl, ?_⟩⟩
      have n4 := made hxs_ hdxs_ sx
      have n24 := Same.trans' n2 n4
      exact ⟨_, _, rfl, y2, _, u0, ur, R, a', b', rfl, n4 _ _ upd_same, (ccU.monoE E3).mono n24, sdu, rfu, RR.rsz, hsp, sa', sb', gv_to rfl rfl fun tt H' s' hres => hRk _ _ ⟨tt, rfl, e3.trans (extS (Same.trans' n24 s')), T3'.ext (Same.trans' n24 s'), hres⟩⟩
    rintro σ' H5 ⟨tu, rfl, e5, T5', hres2⟩
    have len1 : ∀ l, dueRes R a' b' = .told l → l.length ≤ 1000 := fun l e => Nat.le_trans (due_len e) (by decide)
    have r1 := hres1.monoE e5
    have r0 := hdue.monoE (e4.trans e5)
    have e25 := e24.trans e5
    try dsimp only
    exact ⟨_, rfl, _, rfl, _, _, rfl, al_res r1 r0 len1, fun H6 s6 => ⟨true, rfl, iteF ⟨_, rfl, _, rfl, _, _, rfl, al_res (hres2.mono s6) (r0.mono s6) len1, fun H7 s7 => ⟨true, rfl, iteF ⟨_, _, _, _, _, rfl, e25.trans (extS (Same.trans' s6 s7)), T5'.ext (Same.trans' s6 s7)⟩⟩⟩⟩⟩
  · rintro σ H1 ⟨o11, o15, o17, o18, o19, rfl, e1, T1⟩
    try dsimp only
    refine ⟨_, rfl, _, rfl, _, rfl, _, rfl, _, rfl, _, _, rfl, R, a2, b2, hrvL.monoE e1, htshL.monoE e1, pre2, sa2, sb2, fun td H2 s2 hdue => ?_⟩
    have e2 := e1.trans (extS s2)
    have T2' := T1.ext s2
    refine ⟨_, _, _, _, rfl, lc, cs, ls, ys, _, td, R, a2, b2, rfl, e2 _ _ hcsL (fun _ z => nomatch z), ccL.monoE e2, rfl, e2 _ _ hlsL (fun _ z => nomatch z), hysL.monoE e2, htshL.monoE e2, rfl, hdue, RR.seen hmem, sab2, by omega, fun d hd => ⟨(RSs.big d hd).1.mono (by decide), (RSs.big d hd).2.mono (by decide), (RSs.pl d hd).1, (RSs.pl d hd).2, h24 d hd⟩, T2', fun H3 e3 T3' => ⟨true, rfl, iteF ?_⟩⟩
    have e13 := e2.trans e3
    refine ⟨_, rfl, _, rfl, _, rfl, _, _, _, rfl, st, _, p, nms, _, ln, rfl, hsL.monoE e13, by omega, rfl, hskyL.monoE e13, rfl, e13 _ _ hlnL (fun _ z => nomatch z), own3.ne, hok, by omega, n8, hbig, T3', fun H4 sn T4' hs4' => ⟨true, rfl, iteF ?_⟩⟩
    have snL := (SameN.ofE (st := st) e13).trans sn
    have qL := snL.q hsL
    have skyF := hskyL.monoN hsL snL
    have lnF := snL _ _ own3.ne hlnL (fun _ z => nomatch z)
    have lrF := snL _ _ own2.ne hlrL (fun _ z => nomatch z)
    have lsF := snL _ _ nls hlsL (fun _ z => nomatch z)
    refine ⟨_, rfl, _, rfl, _, rfl, _, _, _, rfl, p, nms, _, ln, lr, xr, rfl, skyF, rfl, lnF, rfl, lrF, hxrL.monoQ qL, hok, n8, RS.pl, fun H5 s5 => ?_⟩
    refine ⟨true, rfl, iteT ?_⟩
    have skyF5 := skyF.mono s5
    obtain ⟨dx5, l5, rows5, hp5, _⟩ := id skyF5
    refine ⟨_, rfl, p, dx5, _, rfl, hp5, rfl, _, rfl, _, rfl, ln, _, _, _, rfl, rfl, SqL.of (s5 _ _ lnF), atI_nat eyn, _, _, rfl, p, nms, _, rfl, skyF5, hok, n8, hbig, .inl ⟨n, rfl, nameOk_line nok⟩, fun e => ?_, fun _ => ⟨n, rfl, .inr ⟨j, m, hni, hm, fun u H6 s6 hu => ?_⟩⟩⟩
    · rw [show fitsB (.str n) = nameOk n from rfl, nok] at e; cases e
    have s56 := Same.trans' s5 s6
    exact ⟨_, rfl, _, rfl, _, _, _, rfl, u, nms, _, ln, ls, ys, rfl, hu.a, rfl, s56 _ _ lnF, rfl, s56 _ _ lsF, (hysL.monoQ qL).mono s56, hok, n8, RSs.pl, fun H7 s7 => h H7⟩
end
end Wk
set_option maxHeartbeats 0
namespace Wk
open PySem PySem.W PySem.Calls PyProof.Rows
abbrev Lw : OpenLaw := PySem.Challenge.rw_wheelsky_k90_meetings_seen_from_a_cycle
abbrev R : OpenRow := OpenLaw.row Lw
abbrev qv : Program := view R.prog [103]
theorem run (w : World) : HandSHeadRun.RunEq R qv hk obW 40000 names w := by
  intro os
  kernel_rfl
end Wk
set_option maxHeartbeats 4000000
namespace Wk
open PySem PySem.Spec PyProof.Rows L2
/-! ### all together -/
section
variable {P : Program} {w : World} {K : PySem.W.Frag} {mg : Str → Option Value} {base : Heap}
theorem ok_all (T : Tx K mg) (TB1 : LamX.TabB base mg (cdD K "_law_search_right") (tabOfD K "_law_search_right")) (TB2 : LamX.TabB base mg (cdD K "_law_names_right") (tabOfD K "_law_names_right")) (TB3 : LamX.TabB base mg (cdD K "law") (tabOfD K "law")) :
    ∃ fd, FnP K D_law fd ∧ FnOk P w K mg base (L2.CX P w) 17 (ga K "law") fd ["_law_script"] (spLaw K) := by
  have d_Cycle_eq := ok_Cycle_eq (P := P) (w := w) (base := base) T 
  have d_Sky_eq := ok_Sky_eq (P := P) (w := w) (base := base) T d_Cycle_eq
  have d_fits_name := ok_fits_name (P := P) (w := w) (base := base) T 
  have d_fits_rows := ok_fits_rows (P := P) (w := w) (base := base) T d_fits_name
  have d_Sky_init := ok_Sky_init (P := P) (w := w) (base := base) T d_fits_rows
  have d_common_divisor := ok_common_divisor (P := P) (w := w) (base := base) T 
  have d_whole_number := ok_whole_number (P := P) (w := w) (base := base) T 
  have d_is_fraction := ok_is_fraction (P := P) (w := w) (base := base) T d_common_divisor d_whole_number
  have d_need_place := ok_need_place (P := P) (w := w) (base := base) T d_is_fraction
  have d_need_fraction := ok_need_fraction (P := P) (w := w) (base := base) T d_is_fraction
  have d_Cycle_init := ok_Cycle_init (P := P) (w := w) (base := base) T d_need_place d_need_fraction
  have d__law_alike := ok_alike4 (P := P) (w := w) (base := base) T
  have d_names := ok_Sky_names (P := P) (w := w) (base := base) T 
  have d_Sky_iter := ok_Sky_iter (P := P) (w := w) (base := base) T
  have d__law_rows_right := ok__law_rows_right (P := P) (w := w) (base := base) T d_Sky_eq d_Sky_init d_Cycle_init d__law_alike d_names d_Sky_iter
  have d_check_value := ok_check_value (P := P) (w := w) (base := base) T d_is_fraction
  have d_part_of := ok_part_of (P := P) (w := w) (base := base) T d_check_value
  have d_lowest := ok_lowest (P := P) (w := w) (base := base) T d_common_divisor
  have d_check_pair := ok_check_pair (P := P) (w := w) (base := base) T d_is_fraction
  have d_minus := ok_minus (P := P) (w := w) (base := base) T d_lowest d_check_pair
  have d_Cycle_sub := ok_Cycle_sub (P := P) (w := w) (base := base) T d_Cycle_init d_part_of d_minus
  have d_NoName_init := ok_NoName_init (P := P) (w := w) (base := base) T 
  have d_BadValue_init := ok_BadValue_init (P := P) (w := w) (base := base) T 
  have d_need_name := ok_need_name (P := P) (w := w) (base := base) T d_fits_name d_BadValue_init
  have d_cycle_named := ok_cycle_named (P := P) (w := w) (base := base) T d_NoName_init d_need_name
  have d_Sky_seen_from := ok_Sky_seen_from (P := P) (w := w) (base := base) T d_Sky_init d_Cycle_sub d_cycle_named
  have d__law_mixed := ok__law_mixed (P := P) (w := w) (base := base) T 
  have d__law_take := ok__law_take (P := P) (w := w) (base := base) T d__law_mixed
  have d__law_pick := ok__law_pick (P := P) (w := w) (base := base) T d__law_take
  have d__law_signs := ok__law_signs (P := P) (w := w) (base := base) T 
  have d__law_words := ok__law_words (P := P) (w := w) (base := base) T d__law_take d__law_signs
  have d__law_names_right := ok__law_names_right (P := P) (w := w) (base := base) T d__law_alike d_Sky_seen_from d__law_take d__law_pick d__law_words TB2
  have d_plus := ok_plus (P := P) (w := w) (base := base) T d_lowest d_check_pair
  have d_TooMany_init := ok_TooMany_init (P := P) (w := w) (base := base) T 
  have d_floor_of := ok_floor_of (P := P) (w := w) (base := base) T d_check_value
  have d_over := ok_over (P := P) (w := w) (base := base) T d_lowest d_check_pair
  have d_compare := ok_compare (P := P) (w := w) (base := base) T d_check_pair
  have d_times := ok_times (P := P) (w := w) (base := base) T d_lowest d_check_pair
  have d_next_step := ok_next_step (P := P) (w := w) (base := base) T d_plus d_times d_floor_of d_over d_minus
  have d_steps_within := ok_steps_within (P := P) (w := w) (base := base) T d_plus d_TooMany_init d_floor_of d_over d_minus d_compare d_next_step
  have d_need_span := ok_need_span (P := P) (w := w) (base := base) T 
  have d_Cycle_visits := ok_Cycle_visits (P := P) (w := w) (base := base) T d_steps_within d_over d_minus d_need_span d_need_place
  have d_precedes := ok_precedes (P := P) (w := w) (base := base) T 
  have d_Span_init := ok_Span_init (P := P) (w := w) (base := base) T d_minus d_precedes d_is_fraction
  have d__law_search_right := ok__law_search_right (P := P) (w := w) (base := base) T d__law_alike d_Cycle_visits d_Span_init TB1
  have d__law_gcd := ok__law_gcd (P := P) (w := w) (base := base) T 
  have d__law_lowest := ok__law_lowest (P := P) (w := w) (base := base) T d__law_gcd
  have d__law_plus := ok__law_plus (P := P) (w := w) (base := base) T d__law_lowest
  have d__law_times := ok__law_times (P := P) (w := w) (base := base) T d__law_lowest
  have d__law_floor := ok__law_floor (P := P) (w := w) (base := base) T 
  have d__law_over := ok__law_over (P := P) (w := w) (base := base) T d__law_lowest
  have d__law_minus := ok__law_minus (P := P) (w := w) (base := base) T d__law_lowest
  have d__law_numbers_in := ok__law_numbers_in (P := P) (w := w) (base := base) T d__law_floor d__law_over d__law_minus
  have d__law_meetings_due := ok__law_meetings_due (P := P) (w := w) (base := base) T d__law_plus d__law_times d__law_numbers_in
  have d_never_weights := ok_never_weights (P := P) (w := w) (base := base) T 
  have d_weighed := ok_weighed (P := P) (w := w) (base := base) T d_plus d_times
  have d_weighted_divisor := ok_weighted_divisor (P := P) (w := w) (base := base) T 
  have d_joint_measure := ok_joint_measure (P := P) (w := w) (base := base) T d_lowest d_weighted_divisor d_common_divisor
  have d_check_values := ok_check_values (P := P) (w := w) (base := base) T d_is_fraction
  have d_measure_paper := ok_measure_paper (P := P) (w := w) (base := base) T d_joint_measure d_check_values
  have d_need_cycles := ok_need_cycles (P := P) (w := w) (base := base) T 
  have d_meeting_paper := ok_meeting_paper (P := P) (w := w) (base := base) T d_times d_part_of d_minus d_over d_never_weights d_weighed d_measure_paper d_need_cycles
  have d_meeting_rule := ok_meeting_rule (P := P) (w := w) (base := base) T d_meeting_paper
  have d_meetings := ok_meetings (P := P) (w := w) (base := base) T d_steps_within d_meeting_rule d_need_span d_need_cycles
  have d__law_sign := ok__law_sign (P := P) (w := w) (base := base) T 
  have d__law_short_span := ok__law_short_span (P := P) (w := w) (base := base) T d__law_plus d__law_over d__law_minus d__law_lowest d__law_take d__law_sign
  have d__law_whole := ok__law_whole (P := P) (w := w) (base := base) T d__law_take
  have d__law_span_over := ok__law_span_over (P := P) (w := w) (base := base) T d__law_plus d__law_times d__law_pick d__law_minus d__law_whole
  have d__law_many := ok__law_many (P := P) (w := w) (base := base) T d__law_take
  have d__law_moment := ok__law_moment (P := P) (w := w) (base := base) T d__law_lowest d__law_take d__law_whole
  have d__law_span_row := ok__law_span_row (P := P) (w := w) (base := base) T d__law_plus d__law_lowest d__law_take d__law_moment
  have d__law_bezout := ok__law_bezout (P := P) (w := w) (base := base) T 
  have d__law_rule := ok__law_rule (P := P) (w := w) (base := base) T d__law_minus d__law_times d__law_floor d__law_over d__law_plus d__law_bezout
  have d__law_part := ok__law_part (P := P) (w := w) (base := base) T d__law_lowest
  have d__law_seen := ok__law_seen (P := P) (w := w) (base := base) T d__law_part d__law_minus
  have d__law_place := ok__law_place (P := P) (w := w) (base := base) T d__law_lowest d__law_take
  have d__law_frac := ok__law_frac (P := P) (w := w) (base := base) T d__law_lowest d__law_take
  have d__law_size := ok__law_size (P := P) (w := w) (base := base) T d__law_take
  have d__law_met := ok__law_met (P := P) (w := w) (base := base) T d__law_size d__law_part d__law_minus d__law_times d__law_take d__law_pick d__law_frac d__law_place d__law_moment
  have d__law_sky_for := ok__law_sky_for (P := P) (w := w) (base := base) T d__law_place d__law_frac d__law_take d__law_met
  have d__law_store := ok__law_store (P := P) (w := w) (base := base) T 
  have d_law := ok_law (P := P) (w := w) (base := base) T d__law_rows_right d_Sky_seen_from d__law_names_right d__law_search_right d__law_meetings_due d__law_alike d_meetings d_Span_init d_Sky_iter d_names d_Sky_init d_Cycle_init d__law_short_span d__law_plus d__law_times d__law_whole d__law_span_over d__law_many d__law_span_row d__law_rule d__law_seen d__law_take d__law_words d__law_sky_for d__law_store TB3
  exact d_law
end
theorem tabs_nil {K : PySem.W.Frag} {H : Hp} (h : ∀ p ∈ tf.map (He.cT K), H p.2 = some (.tbl #[])) : LamX.Tabs (T3 K) H := by
  intro p hp
  simp only [T3, List.mem_cons, List.not_mem_nil, or_false] at hp
  rcases hp with rfl | rfl | rfl
  · exact LamX.TabS.nil (h _ (List.mem_map.mpr ⟨_, List.mem_cons_self, rfl⟩))
  · exact LamX.TabS.nil (h _ (List.mem_map.mpr ⟨_, List.mem_cons_of_mem _ List.mem_cons_self, rfl⟩))
  · exact LamX.TabS.nil (h _ (List.mem_map.mpr ⟨_, List.mem_cons_of_mem _ (List.mem_cons_of_mem _ List.mem_cons_self), rfl⟩))
theorem law_at {w : World} {mg : Str → Option Value} {fa : Addr} {h : Heap} (Y : ∃ K : PySem.W.Frag, K.In h ∧ SaysW h K) (G : h.Ns mainGlobals mg) (hmg : mg ("law" : Str) = some (.ref fa)) :
    ∃ K : PySem.W.Frag, K.In h ∧ LamX.LawAtS Lw w K (L2.CX Lw.prog w) 17 63 "_law_script" mg fa h := by
  obtain ⟨K, KX, S⟩ := Y
  have T := Tx.of KX G S
  have e := T.g_law.symm.trans hmg
  cases e
  obtain ⟨fd, F⟩ := T.f_law
  have hb : Binds K fd ["_law_script"] [] := F.bindsN fun _ _ _ _ _ _ us hl => match us, hl with | [_], _ => rfl
  have hbA := FunD.bindsA (ps := ["_law_script"]) F fun _ _ _ _ _ _ us hl => match us, hl with | [_], _ => rfl
  refine ⟨K, KX, fd, tf.map (He.cT K), spLaw K, fun p hp => ?_, fun p hp => ?_, fun p hp => ?_, fun s u => hbA s [u] rfl, fun H a ns hl _ hH hS => ?_, fun base KB GB TBs => ?_⟩
  · obtain ⟨q, hq, rfl⟩ := List.mem_map.mp hp
    exact S.empty q hq
  · obtain ⟨q, hq, rfl⟩ := List.mem_map.mp hp
    exact S.out q hq
  · obtain ⟨q, hq, rfl⟩ := List.mem_map.mp hp
    exact PySem.W.codeHd_of_K KX (S.hd q hq)
  · exact ⟨.ref a, rfl, a, ns, rfl, hS, Nat.le_trans hl (by decide), tabs_nil hH, fun _ => rfl⟩
  · have tb := fun (q : He.Defn) (hq : q ∈ tf) => TBs _ (List.mem_map.mpr ⟨q, hq, rfl⟩)
    obtain ⟨fd2, F2, ok⟩ := ok_all (P := Lw.prog) (w := w) T (tb ("_law_search_right", none) List.mem_cons_self) (tb ("_law_names_right", none) (List.mem_cons_of_mem _ List.mem_cons_self)) (tb ("law", none) (List.mem_cons_of_mem _ (List.mem_cons_of_mem _ List.mem_cons_self)))
    rw [fd_one F F2]
    exact ok
end Wk
open PySem PySem.W PySem.Calls PyProof.Rows
theorem PySem.Challenge.cw_wheelsky_k90_meetings_seen_from_a_cycle_holds : PySem.Challenge.rw_wheelsky_k90_meetings_seen_from_a_cycle.Holds := by
  w_on; o_law
  refine HandSHeadRun.head_any (r := Wk.R) (q := Wk.qv) (H := Wk.hk) (ob := Wk.obW) (M := 40000) (loose := Wk.names) (d := HandSHeadRun.topDef Wk.R.prog 103) (kwd := []) Wk.obW_eq
    (by kernel_rfl) (fun s => by kernel_rfl) Wk.run (by kernel_rfl) (by kernel_rfl) (by kernel_rfl) (by rfl) (by first | assumption | decide +kernel) (by decide +kernel) ⟨rfl, rfl, rfl, rfl, rfl, by decide +kernel⟩ ?hw ?hc
  case hw => w_witness2
  case hc =>
    refine LamX.walk_ofTsE (l := Wk.Lw) (n := 63) (k := 17) (x := "_law_script") (CX := fun w => L2.CX Wk.Lw.prog w) rfl (by decide) (by kernel_rfl) ⟨rfl, by decide, by decide⟩ ?F (fun w H s e s' z => ?_)
    · intro w mg fa h Y G hmg0
      have hmg : mg ("law" : PySem.Str) = some (.ref fa) := by
        have e : (HandSHeadRun.topDef Wk.R.prog 103).name = ("law" : PySem.Str) := by kernel_rfl
        rw [← e]
        exact hmg0
      exact Wk.law_at Y G hmg
    · obtain ⟨_, _, _, _, _, _, _, _, _, _, _, _, z⟩ := z
      exact z
